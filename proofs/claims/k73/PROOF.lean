import PyProof.Rows.All
import Wide.All
import OpenK.AllK
import Wide.FinOn
import HandS.ForMost
import HandS.ForExc
import HandS.Codes
import HandS.Wide
import HandS.More
import HandS.SortInts
import HandS.SortRule
import HandS.Conv
import HandS.IsInst
import PySem.Challenge.RW_fewreaders_k73_first_line_that_turns_all
import HandS.WideBits
import HandS.Nested
import HandS.ExcInit
import HandS.FStr
import HandS.ExcSuper
import KE.KExcSuper
import HandS.Walk
import HandS.Defaults
import HandS.SetFor
import HandS.TryMany
import HandS.ExcIs
import HandS.ExcField
import HandS.HeadHook1
import HandS.HeadHook2
set_option Elab.async false
set_option linter.all false
set_option maxRecDepth 100000
/-! What all texts of this claim lean on: the text by places, the store, what stays. -/
namespace Few
open PySem PySem.Spec PyProof.Rows L2
def topS (i : Nat) : Stmt := PySem.Challenge.pw_fewreaders_k73_first_line_that_turns_all.main.body.getD i (.Pass ⟨0, 0, 0, 0⟩)
/-- the built-ins whose names the module leaves alone -/
structure Blt (mg : Str → Option Value) : Prop where
  len : mg "len" = none
  max : mg "max" = none
  min : mg "min" = none
  abs : mg "abs" = none
  int : mg "int" = none
  list : mg "list" = none
  tuple : mg "tuple" = none
  bool : mg "bool" = none
  str : mg "str" = none
  range : mg "range" = none
  sorted : mg "sorted" = none
  all : mg "all" = none
  isinstance : mg "isinstance" = none
  enumerate : mg "enumerate" = none
/-- a def as its callers see it -/
structure Cal (K : PySem.W.Frag) (mg : Str → Option Value) (x : Str) (f : Addr) (fd : FuncData) (ps : List Str) : Prop where
  g : mg x = some (.ref f)
  kp : PySem.W.keepIn K (.ref f) = true
  b : Binds K fd ps []
/-- all but what stands at s stays -/
def Fr (s : Addr) (H H' : Hp) : Prop := ∀ b o, b ≠ s → H b = some o → H' b = some o
theorem Fr.refl {s : Addr} {H : Hp} : Fr s H H := fun _ _ _ h => h
theorem Fr.trans {s : Addr} {H H1 H2 : Hp} (a : Fr s H H1) (b : Fr s H1 H2) : Fr s H H2 := fun c o n h => b c o n (a c o n h)
theorem Fr.of {s : Addr} {H H' : Hp} (a : Same H H') : Fr s H H' := fun c o _ h => a c o h
theorem Fr.at {s : Addr} {H : Hp} {o : HO} : Fr s H (upd H s o) := fun b u n h => by rw [upd_ne n]; exact h
theorem Fr.new {s p : Addr} {H H' : Hp} {o : HO} (a : Fr s H H') (h : H p = none) (hs : p ≠ s) : Fr s H (upd H' p o) := fun b u n e => by
  rw [upd_ne (ne_of_none e h)]
  exact a b u n e
theorem same_new {H : Hp} {p : Addr} {o : HO} (h : H p = none) : Same H (upd H p o) := fun b x e => by
  rw [upd_ne (ne_of_none e h)]
  exact e
theorem same_mut {H H' : Hp} {p : Addr} {o : HO} (a : Same H H') (h : H p = none) : Same H (upd H' p o) := fun b x e => by
  rw [upd_ne (ne_of_none e h)]
  exact a b x e
/-! ### rules with the written part named (within a comprehension the context is another, K the same) -/
section
variable {X : Cx} {e : Expr} {es : List Expr} {ta to : TE} {t : TA} {f : Str} {pos cpos : Pos}
theorem ixL (K : PySem.W.Frag) (h : X.K = K := by rfl) : IxR X (rIxL K) := h ▸ ix_list
theorem ixT (K : PySem.W.Frag) (h : X.K = K := by rfl) : IxR X (rIxT K) := h ▸ ix_tup
theorem ixQ (K : PySem.W.Frag) (h : X.K = K := by rfl) : IxR X (rIx K) := h ▸ ix_seq
def rLenQ (K : PySem.W.Frag) : List V → Hp → VK → Prop := fun xs H Q => ∃ p ys, xs = [.ref p] ∧ (SqL K H p ys ∨ SqT K H p ys) ∧ Q (.int ys.length) H
theorem lenK (K : PySem.W.Frag) (h : X.K = K := by rfl) : CallR X (.builtin "len") (rLenQ K) := h ▸ call_len_seq
def rListQ (K : PySem.W.Frag) : List V → Hp → VK → Prop := fun xs H Q => ∃ p ys, xs = [.ref p] ∧ (SqL K H p ys ∨ SqT K H p ys) ∧ ∀ l, H l = none → Q (.ref l) (upd H l (.lst ys))
theorem listK (K : PySem.W.Frag) (h : X.K = K := by rfl) : CallR X (.type "list") (rListQ K) := h ▸ call_list_of
theorem inK (K : PySem.W.Frag) (h : X.K = K := by rfl) : OpR X (compareOp .In) (rIn K false) := h ▸ op_in_seq
theorem notInK (K : PySem.W.Frag) (h : X.K = K := by rfl) : OpR X (compareOp .NotIn) (rIn K true) := h ▸ op_notIn_seq
theorem slL (K : PySem.W.Frag) (h : X.K = K := by rfl) : SlR X (rSlL K) := h ▸ sl_list
theorem slT (K : PySem.W.Frag) (h : X.K = K := by rfl) : SlR X (rSlT K) := h ▸ sl_tup
theorem indexK (K : PySem.W.Frag) (h : X.K = K := by rfl) : MtR X "list.index" (rIndex K) := h ▸ mt_index
theorem allK (K : PySem.W.Frag) (hc : X.calm = true) (h : X.K = K := by rfl) : CallR X (.builtin "all") (rAll K) := h ▸ cr_all hc
theorem bmK (K : PySem.W.Frag) {o : Expr} {name : Str} {apos : Pos} {T id : String} {r : V → List V → Hp → VK → Prop} (pa : PlainAttrs T) (slot : Slot T name id) (hty : typeOf (.builtin id) = pure (.type "method_descriptor")) (hm : MtR X id r) (ho : PE X o to) (ha : PA X (e :: es) t) (h : X.K = K := by rfl)
    (h1 : attributeBase o name X.env (eval o X.env) = eval o X.env := by rfl)
    (h2 : ((backTo cpos (starEach (e :: es) X.env)).all (fun x => !x.1) && (backToKw cpos (keywordEach [] X.env)).all (fun x => x.1.isSome) && decide ((e :: es).length + ([] : List Keyword).length + (if ([] : List Keyword).isEmpty then 0 else 1) < 30)) = true := by rfl)
    (h3 : (apos.endLine == cpos.line) = true := by rfl) (h4 : starEach (e :: es) X.env = (false, eval e X.env) :: starEach es X.env := by rfl) (h5 : (backTo cpos (starEach es X.env)).any (·.1) = false := by rfl) :
    PE X (.Call (.Attribute o name apos) (e :: es) [] cpos) (tBM K T r to t) := h ▸ pe_bm pa slot hty hm ho ha h1 h2 h3 h4 h5
def tTruK (K : PySem.W.Frag) (te : TE) : TT := fun σ H Q => te σ H fun x H' => ∃ k, TruV K x H' k ∧ Q k H'
theorem ptK (K : PySem.W.Frag) (he : PE X e ta) (hw : ∀ whole, isTrue e X.env whole = (do let v ← whole; standAt e.pos; holding [v] (truthy v)) := by intro _; rfl) (h : X.K = K := by rfl) : PT X e (tTruK K ta) := h ▸ pt_truth he hw
theorem fldK (K : PySem.W.Frag) (he : PE X e ta) (hb : attributeBase e f X.env (eval e X.env) = eval e X.env := by rfl) (h : X.K = K := by rfl) : PE X (.Attribute e f pos) (tFld K ta f) := h ▸ pe_fld he hb
theorem isiK (K : PySem.W.Frag) (h : X.K = K := by rfl) : CallR X (.builtin "isinstance") (rIsi K) := h ▸ call_isi
theorem sortPK (K : PySem.W.Frag) (h : X.K = K := by rfl) : CallR X (.builtin "sorted") (rSortedPO K) := h ▸ cr_sortedPO
theorem sortQK (K : PySem.W.Frag) (h : X.K = K := by rfl) : CallR X (.builtin "sorted") (rSortedP K) := h ▸ cr_sortedP
theorem piL (K : PySem.W.Frag) {tg l : Expr} {tl : TE} (hl : PE X l tl) (h : X.K = K := by rfl) : PI X tg l (iList K tl) := h ▸ pi_list hl
theorem peK (K : PySem.W.Frag) {f : PySem.W.Frag → TE} (he : PE X e (f X.K)) (h : X.K = K := by rfl) : PE X e (f K) := h ▸ he
end
/-- the store: the script's cells at c, five numbers -/
def stV (c : Addr) (a1 a2 a3 a4 a5 : Int) : List V := [.ref c, .int a1, .int a2, .int a3, .int a4, .int a5]
def StoreAt (H : Hp) (s c : Addr) : Prop := ∃ (cs : List Int) (a1 a2 a3 a4 a5 : Int), H s = some (.lst (stV c a1 a2 a3 a4 a5)) ∧ H c = some (.lst (cs.map V.int)) ∧ 0 ≤ a1
theorem store_ne {H : Hp} {s c : Addr} {cs : List Int} {xs : List V} {a : Addr} (h : H s = some (.lst (.ref a :: xs))) (hc : H c = some (.lst (cs.map V.int))) : c ≠ s := fun e => by
  rw [e, h] at hc
  cases cs with
  | nil => simp at hc
  | cons y r => simp at hc
theorem StoreAt.same {H H' : Hp} {s c : Addr} (a : Same H H') (h : StoreAt H s c) : StoreAt H' s c := by
  obtain ⟨cs, a1, a2, a3, a4, a5, h1, h2, h3⟩ := h
  exact ⟨cs, a1, a2, a3, a4, a5, a _ _ h1, a _ _ h2, h3⟩
def sp_take (_ : PySem.W.Frag) : Sp := fun vs H Q _ => ∃ (s c : Addr) (m : Int), vs = [.ref s, .int m] ∧ StoreAt H s c ∧ m.natAbs < 2 ^ 9000 ∧
  ∀ (r : Int) (H' : Hp), 0 ≤ r → (r < m ∨ r < 1) → Fr s H H' → StoreAt H' s c → Q (.int r) H'
theorem at_int {xs : List Int} {i : Int} (h0 : 0 ≤ i) (h1 : i < (xs.length : Int)) : ∃ z, atI (xs.map V.int) i = some (.int z) := by
  obtain ⟨n, rfl⟩ := Int.eq_ofNat_of_zero_le h0
  have hn : n < xs.length := by omega
  exact ⟨xs[n], atI_nat (by rw [List.getElem?_map, List.getElem?_eq_getElem hn] <;> rfl)⟩
theorem mod_le {a b n : Int} (h : 0 < b) (hn : b ≤ n) : 0 ≤ a % b ∧ a % b < n := ⟨Int.emod_nonneg _ (by omega), Int.lt_of_lt_of_le (Int.emod_lt_of_pos _ h) hn⟩
end Few
set_option maxHeartbeats 2000000
namespace Few
open PySem PySem.Spec PyProof.Rows L2
section
variable {P : Program} {w : World} {K : PySem.W.Frag} {mg : Str → Option Value} {base : Heap}
abbrev s_take : Stmt := topS 27
theorem sc_take : FnScope ["store", "many", "size", "cells", "prime", "cell", "value", "state", "low", "high", "twice"] ["store", "many"] (defScope s_take) := ⟨rfl, rfl, rfl, by decide +kernel, rfl, by decide +kernel, by decide +kernel⟩
theorem ok_take {f : Addr} {fd : FuncData} (F : Fun K "_law_take" "_law_take" s_take f fd) (T : Blt mg) : FnOk P w K mg base CX0 1 f fd ["store", "many"] (sp_take K) := by
  refine F.ok sc_take (fun vs H Q E h => ?_) (fun cdv A outer s H vs Q E hr h => ?_)
  · obtain ⟨_, _, _, rfl, _⟩ := h
    rfl
  · obtain ⟨a, c, m, rfl, hS, hm, q⟩ := h
    refine ⟨_, (pss_cons (ps_set (i := 2) sc_take.nd rfl (Or.inl rfl) (pe_callB (call_max2 rfl) (by rfl) T.max (by decide +kernel) (pa_cons pe_int (pa_cons (pv 1) pa_nil))))
    (pss_cons (ps_set (i := 3) sc_take.nd rfl (Or.inl rfl) (pe_ix ix_list (pv 0) pe_int (fun _ _ => rfl)))
    (pss_cons (ps_set (i := 4) sc_take.nd rfl (Or.inl rfl) pe_int)
    (pss_cons (ps_asg (pe_op op_add (pe_ix ix_list (pv 0) pe_int (fun _ _ => rfl)) pe_int) (pg_sub (pv 0) pe_int set_list))
    (C8.pss_cut (ps_if (PW.pt (pw_and (pt_cmpR op_eq (pe_ix ix_list (pv 0) pe_int (fun _ _ => rfl)) pe_int (nomark _)) (pw_and (pt_cmpR op_eq (pe_ix ix_list (pv 0) pe_int (fun _ _ => rfl)) pe_int (nomark _)) (pw_and1 (pt_cmpR op_lt (pe_ix ix_list (pv 0) pe_int (fun _ _ => rfl)) (pe_callB call_len_seq (by rfl) T.len PySem.boot_len (pa_cons (pv 3) pa_nil)) (nomark _))))))
      (pss_cons (ps_set (i := 5) sc_take.nd rfl (Or.inl rfl) (pe_callTy call_int1 (by rfl) T.int (by decide +kernel) (pa_cons (pe_ix ix_list (pv 3) (pe_ix ix_list (pv 0) pe_int (fun _ _ => rfl)) (fun _ _ => rfl)) pa_nil)))
        (pss_cons (ps_asg (pe_op op_add (pe_ix ix_list (pv 0) pe_int (fun _ _ => rfl)) pe_int) (pg_sub (pv 0) pe_int set_list))
        (pss_cons (ps_asg (pe_op op_mod (pe_callTy call_int1 (by rfl) T.int (by decide +kernel) (pa_cons (pe_op op_add (pe_op op_add (pe_op op_mul (pe_ix ix_list (pv 0) pe_int (fun _ _ => rfl)) pe_int) (pe_op op_mul (pv 5) pe_int)) pe_int) pa_nil)) (pv 4)) (pg_sub (pv 0) pe_int set_list))
        (pss_one (ps_if (pt_cmpR op_ge (pe_callB call_abs (by rfl) T.abs (by decide +kernel) (pa_cons (pv 5) pa_nil)) (pe_op op_pow pe_int pe_int) (nomark _))
          (pss_one (ps_asg (pe_callB call_abs (by rfl) T.abs (by decide +kernel) (pa_cons (pv 5) pa_nil)) (pg_sub (pv 0) pe_int set_list)))
          (pss_one (ps_asg pe_int (pg_sub (pv 0) pe_int set_list))))))))
      pss_nil)
    (pss_cons (ps_if (pt_cmpR op_gt (pe_ix ix_list (pv 0) pe_int (fun _ _ => rfl)) pe_int (nomark _))
      (pss_cons (ps_set (i := 6) sc_take.nd rfl (Or.inl rfl) (pe_callTy call_int1 (by rfl) T.int (by decide +kernel) (pa_cons (pe_ix ix_list (pv 0) pe_int (fun _ _ => rfl)) pa_nil)))
        (pss_cons (ps_asg (pe_op op_fdivW (pv 6) (pv 2)) (pg_sub (pv 0) pe_int set_list))
        (pss_one (ps_ret (pe_op op_mod (pv 6) (pv 2))))))
      pss_nil)
    (C8.pss_cut (ps_if (pt_cmpR op_gt (pe_ix ix_list (pv 0) pe_int (fun _ _ => rfl)) pe_int (nomark _))
      (pss_one (ps_asg (pe_op op_sub (pe_ix ix_list (pv 0) pe_int (fun _ _ => rfl)) pe_int) (pg_sub (pv 0) pe_int set_list)))
      pss_nil)
    (pss_cons (ps_set (i := 7) sc_take.nd rfl (Or.inl rfl) (pe_op op_mod (pe_callTy call_int1 (by rfl) T.int (by decide +kernel) (pa_cons (pe_op op_add (pe_op op_add (pe_op op_mul (pe_ix ix_list (pv 0) pe_int (fun _ _ => rfl)) pe_int) (pe_op op_mul (pe_ix ix_list (pv 0) pe_int (fun _ _ => rfl)) pe_int)) pe_int) pa_nil)) (pv 4)))
    (pss_cons (ps_asg (pv 7) (pg_sub (pv 0) pe_int set_list))
    (pss_cons (ps_set (i := 8) sc_take.nd rfl (Or.inl rfl) (pe_op op_mod (pe_callTy call_int1 (by rfl) T.int (by decide +kernel) (pa_cons (pv 7) pa_nil)) pe_int))
    (pss_cons (ps_set (i := 9) sc_take.nd rfl (Or.inl rfl) (pe_op op_fdiv (pv 7) pe_int))
    (pss_cons (ps_set (i := 10) sc_take.nd rfl (Or.inl rfl) (pe_op op_mod (pe_callTy call_int1 (by rfl) T.int (by decide +kernel) (pa_cons (pe_op op_add (pe_op op_mul (pv 8) pe_int) (pe_op op_mul (pv 9) (pe_op op_add (pv 8) pe_int))) pa_nil)) (pv 4)))
    (pss_one (ps_ret (pe_op op_mod (pe_callTy call_int1 (by rfl) T.int (by decide +kernel) (pa_cons (pe_op op_fdiv (pv 10) pe_int) pa_nil)) (pv 2)))))))))))))))), ?_⟩
    obtain ⟨cs, a1, a2, a3, a4, a5, hs, hc, h1⟩ := hS
    have nca : c ≠ a := store_ne hs hc
    obtain ⟨sz, hsz⟩ : ∃ sz : Int, sz = if m > 1 then m else 1 := ⟨_, rfl⟩
    have hsz0 : 0 < sz := by rw [hsz]; split <;> omega
    have hszb : sz.natAbs < 2 ^ 9000 := by
      rw [hsz]
      split
      · exact hm
      · exact Nat.lt_of_lt_of_le (by decide : (1 : Int).natAbs < 2 ^ 1) (Nat.pow_le_pow_right (by decide) (by decide))
    have hszr : ∀ x : Int, 0 ≤ x % sz ∧ (x % sz < m ∨ x % sz < 1) := fun x => by
      have e1 := Int.emod_nonneg x (show sz ≠ 0 by omega)
      have e2 := Int.emod_lt_of_pos x hsz0
      refine ⟨e1, ?_⟩
      rw [hsz] at e2 ⊢
      split
      · rename_i hh; rw [if_pos hh] at e2; exact .inl e2
      · rename_i hh; rw [if_neg hh] at e2; exact .inr e2
    -- size = max(1, many); cells = store[0]; prime
    refine ⟨_, rfl, _, _, rfl, ?_⟩
    refine ⟨_, rfl, a, _, _, _, rfl, rfl, SqL.of hs, rfl, ?_⟩
    -- store[5] += 1
    refine ⟨_, rfl, a, _, _, _, rfl, rfl, SqL.of hs, rfl, _, _, rfl, rfl, _, rfl, a, _, _, 5, rfl, rfl, hs, rfl, ?_⟩
    rw [← hsz]
    refine ⟨fun σ H1 => ∃ (x5 : Option V) (b1 b2 b3 b4 b5 : Int), σ = [some (.ref a), some (.int m), some (.int sz), some (.ref c), some (.int 2305843009213693951), x5, none, none, none, none, none] ∧ Fr a H H1 ∧ H1 a = some (.lst (stV c b1 b2 b3 b4 b5)) ∧ H1 c = some (.lst (cs.map V.int)) ∧ 0 ≤ b1, ?_, ?_⟩
    · refine ⟨_, rfl, a, _, _, _, rfl, rfl, SqL.of upd_same, rfl, rfl, _, rfl, ite2 (fun c2 => ?_) (fun c2 => ?_)⟩
      · refine ⟨_, rfl, a, _, _, _, rfl, rfl, SqL.of upd_same, rfl, rfl, _, rfl, ite2 (fun c3 => ?_) (fun c3 => ?_)⟩
        · refine ⟨_, rfl, a, _, _, _, rfl, rfl, SqL.of upd_same, rfl, _, rfl, c, _, rfl, .inl (SqL.of (by rw [upd_ne nca]; exact hc)), _, _, rfl, rfl, _, rfl, ite2 (fun c4 => ?_) (fun c4 => ?_)⟩
          · rw [List.length_map] at c4
            have c4' : a1 < (cs.length : Int) := of_decide_eq_true c4
            obtain ⟨z, hz⟩ := at_int (xs := cs) h1 c4'
            have hc0 : ∀ o, (upd H a o) c = some (.lst (cs.map V.int)) := fun o => by rw [upd_ne nca]; exact hc
            have hc2 : ∀ o u, (upd (upd H a o) a u) c = some (.lst (cs.map V.int)) := fun o u => by rw [upd_ne nca]; exact hc0 o
            have hc3 : ∀ o u v, (upd (upd (upd H a o) a u) a v) c = some (.lst (cs.map V.int)) := fun o u v => by rw [upd_ne nca]; exact hc2 o u
            have hc4 : ∀ o u v x, (upd (upd (upd (upd H a o) a u) a v) a x) c = some (.lst (cs.map V.int)) := fun o u v x => by rw [upd_ne nca]; exact hc3 o u v
            have f2 : ∀ o u v x, Fr a H (upd (upd (upd (upd H a o) a u) a v) a x) := fun o u v x => ((Fr.at.trans Fr.at).trans Fr.at).trans Fr.at
            -- cell = int(cells[store[1]])
            refine ⟨_, rfl, _, rfl, a, _, _, _, rfl, rfl, SqL.of upd_same, rfl, c, _, _, _, rfl, rfl, SqL.of (hc0 _), hz, .inl ⟨_, rfl, ?_⟩⟩
            -- store[1] += 1
            refine ⟨_, rfl, a, _, _, _, rfl, rfl, SqL.of upd_same, rfl, _, _, rfl, rfl, _, rfl, a, _, _, 1, rfl, rfl, upd_same, rfl, ?_⟩
            -- store[4] = ..
            refine ⟨_, rfl, a, _, _, _, rfl, rfl, SqL.of upd_same, rfl, _, _, rfl, rfl, .inr (by decide), _, rfl, _, _, rfl, rfl, .inr (by decide), _, _, rfl, rfl, _, _, rfl, rfl, .inl ⟨_, rfl, ?_⟩⟩
            refine ⟨_, rfl, _, _, rfl, rfl, (by show (0 : Int) < 2305843009213693951; decide), _, rfl, a, _, _, 4, rfl, rfl, upd_same, rfl, ?_⟩
            -- abs(cell) >= 10 ** 18
            refine ⟨_, rfl, _, rfl, _, _, rfl, rfl, ⟨by decide, by decide, by decide⟩, _, _, rfl, rfl, _, rfl, ite2 (fun c5 => ?_) (fun c5 => ?_)⟩
            · refine ⟨_, rfl, _, rfl, _, rfl, a, _, _, 2, rfl, rfl, upd_same, rfl, ?_⟩
              exact ⟨_, _, _, _, _, _, rfl, f2 _ _ _ _, upd_same, hc4 _ _ _ _, by omega⟩
            · refine ⟨_, rfl, a, _, _, 3, rfl, rfl, upd_same, rfl, ?_⟩
              exact ⟨_, _, _, _, _, _, rfl, f2 _ _ _ _, upd_same, hc4 _ _ _ _, by omega⟩
          · exact ⟨_, _, _, _, _, _, rfl, Fr.at, upd_same, (by rw [upd_ne nca]; exact hc), h1⟩
        · exact ⟨_, _, _, _, _, _, rfl, Fr.at, upd_same, (by rw [upd_ne nca]; exact hc), h1⟩
      · exact ⟨_, _, _, _, _, _, rfl, Fr.at, upd_same, (by rw [upd_ne nca]; exact hc), h1⟩
    · rintro σ H1 ⟨x5, b1, b2, b3, b4, b5, rfl, fr, ha, hc1, hb1⟩
      have hn : ∀ o, (upd H1 a o) c = some (.lst (cs.map V.int)) := fun o => by rw [upd_ne nca]; exact hc1
      -- if store[2] > 0
      refine ⟨_, rfl, a, _, _, _, rfl, rfl, SqL.of ha, rfl, _, _, rfl, rfl, _, rfl, ite2 (fun c2 => ?_) (fun c2 => ?_)⟩
      · refine ⟨_, rfl, a, _, _, _, rfl, rfl, SqL.of ha, rfl, .inl ⟨_, rfl, ?_⟩⟩
        refine ⟨_, rfl, _, rfl, _, _, rfl, rfl, wide_div hsz0 hszb (by decide) (by decide), _, rfl, a, _, _, 2, rfl, rfl, ha, rfl, ?_⟩
        refine ⟨_, rfl, _, rfl, _, _, rfl, rfl, hsz0, ?_⟩
        exact q _ _ (hszr _).1 (hszr _).2 (fr.trans Fr.at) ⟨cs, _, _, _, _, _, upd_same, hn _, hb1⟩
      -- if store[3] > 0
      · refine ⟨fun σ H2 => ∃ (x6 : Option V) (d1 d2 d3 d4 d5 : Int), σ = [some (.ref a), some (.int m), some (.int sz), some (.ref c), some (.int 2305843009213693951), x6, none, none, none, none, none] ∧ Fr a H H2 ∧ H2 a = some (.lst (stV c d1 d2 d3 d4 d5)) ∧ H2 c = some (.lst (cs.map V.int)) ∧ 0 ≤ d1, ?_, ?_⟩
        · refine ⟨_, rfl, a, _, _, _, rfl, rfl, SqL.of ha, rfl, _, _, rfl, rfl, _, rfl, ite2 (fun c3 => ?_) (fun c3 => ?_)⟩
          · refine ⟨_, rfl, a, _, _, _, rfl, rfl, SqL.of ha, rfl, _, _, rfl, rfl, _, rfl, a, _, _, 3, rfl, rfl, ha, rfl, ?_⟩
            exact ⟨_, _, _, _, _, _, rfl, fr.trans Fr.at, upd_same, hn _, hb1⟩
          · exact ⟨_, _, _, _, _, _, rfl, fr, ha, hc1, hb1⟩
        · rintro σ H2 ⟨x6, d1, d2, d3, d4, d5, rfl, fr2, ha2, hc2, hd1⟩
          refine ⟨_, rfl, a, _, _, _, rfl, rfl, SqL.of ha2, rfl, _, _, rfl, rfl, .inr (by decide), _, rfl, a, _, _, _, rfl, rfl, SqL.of ha2, rfl, _, _, rfl, rfl, .inr (by decide), _, _, rfl, rfl, _, _, rfl, rfl, .inl ⟨_, rfl, ?_⟩⟩
          refine ⟨_, rfl, _, _, rfl, rfl, (by show (0 : Int) < 2305843009213693951; decide), ?_⟩
          refine ⟨_, rfl, _, rfl, a, _, _, 4, rfl, rfl, ha2, rfl, ?_⟩
          -- low, high, twice
          refine ⟨_, rfl, .inl ⟨_, rfl, ?_⟩⟩
          refine ⟨_, _, rfl, rfl, (by show (0 : Int) < 1000003; decide), ?_⟩
          refine ⟨_, rfl, _, _, rfl, rfl, ⟨by decide, by decide⟩, ?_⟩
          refine ⟨_, rfl, _, _, rfl, rfl, .inr (by decide), _, rfl, _, rfl, _, _, rfl, rfl, _, _, rfl, rfl, ?_, _, _, rfl, rfl, .inl ⟨_, rfl, ?_⟩⟩
          · have := mod_le (a := (d4 * 1181783497276652981 + d5 * 69621 + 11) % 2305843009213693951) (b := 1000003) (n := 1000003) (by decide) (by decide)
            refine .inr ⟨by omega, by omega⟩
          refine ⟨_, rfl, _, _, rfl, rfl, (by show (0 : Int) < 2305843009213693951; decide), ?_⟩
          refine ⟨_, rfl, _, _, rfl, rfl, ⟨by decide, by decide⟩, .inl ⟨_, rfl, ?_⟩⟩
          refine ⟨_, rfl, _, _, rfl, rfl, hsz0, ?_⟩
          exact q _ _ (hszr _).1 (hszr _).2 (fr2.trans Fr.at) ⟨cs, _, _, _, _, _, upd_same, (by rw [upd_ne nca]; exact hc2), hd1⟩
end
end Few
/-! What stays of the data, the shapes of data: ints, pairs, rows. -/
namespace Few
open PySem PySem.Spec PyProof.Rows L2
/-- what no store looks like -/
def NotSt (o : HO) : Prop := ∀ c a1 a2 a3 a4 a5, o ≠ .lst (stV c a1 a2 a3 a4 a5)
def Keep (H H' : Hp) : Prop := ∀ a o, NotSt o → H a = some o → H' a = some o
theorem Keep.refl {H : Hp} : Keep H H := fun _ _ _ h => h
theorem Keep.trans {H H1 H2 : Hp} (a : Keep H H1) (b : Keep H1 H2) : Keep H H2 := fun c o n h => b c o n (a c o n h)
theorem keep_same {H H' : Hp} (a : Same H H') : Keep H H' := fun c o _ h => a c o h
theorem keep_fr {s c : Addr} {H H' : Hp} (a : Fr s H H') (h : StoreAt H s c) : Keep H H' := fun b o n e => by
  by_cases hb : b = s
  · obtain ⟨cs, a1, a2, a3, a4, a5, h1, _⟩ := h
    rw [hb, h1] at e
    exact absurd (Option.some.inj e).symm (n c a1 a2 a3 a4 a5)
  · exact a b o hb e
theorem ne_st {s a c : Addr} {H : Hp} {o : HO} (h : StoreAt H s c) (ha : H a = some o) (n : NotSt o) : a ≠ s := fun e => by
  obtain ⟨cs, a1, a2, a3, a4, a5, h1, _⟩ := h
  rw [e, h1] at ha
  exact n _ _ _ _ _ _ (Option.some.inj ha).symm
theorem ne_new {s p c : Addr} {H : Hp} (h : StoreAt H s c) (hp : H p = none) : p ≠ s := fun e => by
  obtain ⟨cs, a1, a2, a3, a4, a5, h1, _⟩ := h
  rw [e, h1] at hp
  cases hp
theorem StoreAt.new {H : Hp} {s p c : Addr} {o : HO} (h : StoreAt H s c) (hp : H p = none) : StoreAt (upd H p o) s c := h.same (same_new hp)
/-- a change at p, which was new -/
theorem StoreAt.mut {H0 H : Hp} {s p c : Addr} {o : HO} (h0 : StoreAt H0 s c) (hp : H0 p = none) (h : StoreAt H s c) : StoreAt (upd H p o) s c := by
  obtain ⟨cs0, b1, b2, b3, b4, b5, g1, g2, _⟩ := h0
  obtain ⟨cs, a1, a2, a3, a4, a5, h1, h2, h3⟩ := h
  exact ⟨cs, a1, a2, a3, a4, a5, by rw [upd_ne (ne_of_none g1 hp)]; exact h1, by rw [upd_ne (ne_of_none g2 hp)]; exact h2, h3⟩
theorem Fr.mut {s p : Addr} {H0 H : Hp} {o : HO} (f : Fr s H0 H) (hp : H0 p = none) : Fr s H0 (upd H p o) := fun b u n e => by
  rw [upd_ne (ne_of_none e hp)]
  exact f b u n e
theorem notSt_tup {xs : List V} : NotSt (.tup xs) := fun _ _ _ _ _ _ e => by cases e
theorem notSt_ins {C dx : Addr} {fs : List (Str × V)} : NotSt (.ins C dx fs) := fun _ _ _ _ _ _ e => by cases e
theorem notSt_own {x : Addr} : NotSt (.own x) := fun _ _ _ _ _ _ e => by cases e
theorem notSt_ints {ns : List Int} : NotSt (.lst (ns.map V.int)) := fun _ _ _ _ _ _ e => by
  injection e with e
  cases ns with
  | nil => simp [stV] at e
  | cons n r => simp [stV] at e
theorem notSt_second {xs : List V} (h : ∀ n, xs[1]? ≠ some (.int n)) : NotSt (.lst xs) := fun _ a1 _ _ _ _ e => by
  injection e with e
  rw [e] at h
  exact h a1 rfl
theorem notSt_refs {rs : List Addr} : NotSt (.lst (rs.map V.ref)) := notSt_second fun n e => by
  rw [List.getElem?_map] at e
  cases h : rs[1]? with
  | none => rw [h] at e; cases e
  | some a => rw [h] at e; cases e
theorem notSt_nil : NotSt (.lst []) := notSt_second fun n e => by simp at e
/-- two lists, item by item -/
def Each {α : Type} (R : V → α → Prop) (xs : List V) (ys : List α) : Prop := xs.length = ys.length ∧ ∀ (i : Nat) (x : V), xs[i]? = some x → ∃ y, ys[i]? = some y ∧ R x y
theorem Each.nil {α : Type} {R : V → α → Prop} : Each R [] [] := ⟨rfl, fun i x h => by simp at h⟩
theorem Each.mono {α : Type} {R S : V → α → Prop} {xs : List V} {ys : List α} (h : Each R xs ys) (m : ∀ x y, x ∈ xs → R x y → S x y) : Each S xs ys :=
  ⟨h.1, fun i x e => by
    obtain ⟨y, h1, h2⟩ := h.2 i x e
    exact ⟨y, h1, m x y (List.mem_of_getElem? e) h2⟩⟩
theorem Each.cons {α : Type} {R : V → α → Prop} {x : V} {xs : List V} {y : α} {ys : List α} (h : R x y) (t : Each R xs ys) : Each R (x :: xs) (y :: ys) :=
  ⟨by rw [List.length_cons, List.length_cons, t.1], fun i z e => by
    cases i with
    | zero => exact ⟨y, rfl, by simp at e; rw [← e]; exact h⟩
    | succ i => exact t.2 i z (by simpa using e)⟩
theorem Each.uncons {α : Type} {R : V → α → Prop} {x : V} {xs : List V} {ys : List α} (h : Each R (x :: xs) ys) : ∃ y r, ys = y :: r ∧ R x y ∧ Each R xs r := by
  cases ys with
  | nil => have := h.1; simp at this
  | cons y r =>
    refine ⟨y, r, rfl, ?_, ?_⟩
    · obtain ⟨z, e, q⟩ := h.2 0 x rfl
      simp at e
      rw [e]; exact q
    · refine ⟨by have := h.1; simpa using this, fun i z e => ?_⟩
      have := h.2 (i + 1) z (by simpa using e)
      simpa using this
theorem Each.append {α : Type} {R : V → α → Prop} : ∀ {xs xs' : List V} {ys ys' : List α}, Each R xs ys → Each R xs' ys' → Each R (xs ++ xs') (ys ++ ys')
  | [], _, ys, _, h, t => by
    have : ys = [] := List.eq_nil_of_length_eq_zero h.1.symm
    rw [this]; exact t
  | x :: xs, _, ys, _, h, t => by
    obtain ⟨y, r, rfl, h1, h2⟩ := h.uncons
    exact Each.cons h1 (Each.append h2 t)
theorem Each.snoc {α : Type} {R : V → α → Prop} {xs : List V} {ys : List α} {x : V} {y : α} (h : Each R xs ys) (r : R x y) : Each R (xs ++ [x]) (ys ++ [y]) := h.append (Each.cons r Each.nil)
theorem Each.mem {α : Type} {R : V → α → Prop} {xs : List V} {ys : List α} (h : Each R xs ys) {x : V} (hx : x ∈ xs) : ∃ y ∈ ys, R x y := by
  obtain ⟨i, e⟩ := List.mem_iff_getElem?.mp hx
  obtain ⟨y, h1, h2⟩ := h.2 i x e
  exact ⟨y, List.mem_of_getElem? h1, h2⟩
/-- a pair of ints -/
def PairV (H : Hp) (x : V) (p : Int × Int) : Prop := ∃ t, x = .ref t ∧ H t = some (.tup [.int p.1, .int p.2])
theorem PairV.keep {H H' : Hp} {x : V} {p : Int × Int} (k : Keep H H') (h : PairV H x p) : PairV H' x p := by
  obtain ⟨t, e, h⟩ := h
  exact ⟨t, e, k t _ notSt_tup h⟩
theorem each_keep {H H' : Hp} {xs : List V} {ps : List (Int × Int)} (k : Keep H H') (h : Each (PairV H) xs ps) : Each (PairV H') xs ps := h.mono fun _ _ _ r => r.keep k
theorem notSt_pairs {H : Hp} {xs : List V} {ps : List (Int × Int)} (h : Each (PairV H) xs ps) : NotSt (.lst xs) := notSt_second fun n e => by
  obtain ⟨p, _, t, e', _⟩ := h.2 1 _ e
  cases e'
def PairsAt (H : Hp) (a : Addr) (ps : List (Int × Int)) : Prop := ∃ xs, H a = some (.lst xs) ∧ Each (PairV H) xs ps
theorem PairsAt.keep {H H' : Hp} {a : Addr} {ps : List (Int × Int)} (k : Keep H H') (h : PairsAt H a ps) : PairsAt H' a ps := by
  obtain ⟨xs, h1, h2⟩ := h
  exact ⟨xs, k a _ (notSt_pairs h2) h1, each_keep k h2⟩
/-- a table of truths, n by n -/
def rowV (n : Nat) (f : Nat → Bool) : List V := (List.range n).map fun j => V.bl (f j)
theorem notSt_row {n : Nat} {f : Nat → Bool} : NotSt (.lst (rowV n f)) := notSt_second fun m e => by
  unfold rowV at e
  rw [List.getElem?_map] at e
  cases h : (List.range n)[1]? with
  | none => rw [h] at e; cases e
  | some a => rw [h] at e; cases e
theorem rowV_len {n : Nat} {f : Nat → Bool} : (rowV n f).length = n := by unfold rowV; rw [List.length_map, List.length_range]
theorem rowV_get {n j : Nat} {f : Nat → Bool} (h : j < n) : (rowV n f)[j]? = some (.bl (f j)) := by
  unfold rowV
  rw [List.getElem?_map, List.getElem?_range h]
  rfl
def RowsAt (H : Hp) (a : Addr) (n : Nat) (M : Nat → Nat → Bool) : Prop := ∃ rs : List Addr, H a = some (.lst (rs.map V.ref)) ∧ rs.length = n ∧ ∀ (i : Nat) (r : Addr), rs[i]? = some r → H r = some (.lst (rowV n (M i)))
theorem RowsAt.keep {H H' : Hp} {a : Addr} {n : Nat} {M : Nat → Nat → Bool} (k : Keep H H') (h : RowsAt H a n M) : RowsAt H' a n M := by
  obtain ⟨rs, h1, h2, h3⟩ := h
  exact ⟨rs, k a _ notSt_refs h1, h2, fun i r e => k r _ notSt_row (h3 i r e)⟩
def IntsAt (H : Hp) (a : Addr) (ns : List Int) : Prop := H a = some (.lst (ns.map V.int))
theorem IntsAt.keep {H H' : Hp} {a : Addr} {ns : List Int} (k : Keep H H') (h : IntsAt H a ns) : IntsAt H' a ns := k a _ notSt_ints h
end Few
/-! The plain mathematics of the closure. -/
namespace Few
abbrev Tb := Nat → Nat → Bool
def initM (ps : List (Int × Int)) : Tb := fun x y => decide (((x : Int), (y : Int)) ∈ ps)
def stepM (M : Tb) (m : Nat) : Tb := fun a b => M a b || (M a m && M m b)
def upto (M : Tb) (k : Nat) : Tb := (List.range k).foldl stepM M
def clos (n : Nat) (ps : List (Int × Int)) : Tb := upto (initM ps) n
theorem upto_zero (M : Tb) : upto M 0 = M := rfl
theorem upto_succ (M : Tb) (k : Nat) : upto M (k + 1) = stepM (upto M k) k := by
  unfold upto
  rw [List.range_succ, List.foldl_append]
  rfl
theorem stepM_row (M : Tb) (m b : Nat) : stepM M m m b = M m b := by
  unfold stepM
  cases h : M m b <;> cases M m m <;> rfl
theorem stepM_col (M : Tb) (m a : Nat) : stepM M m a m = M a m := by
  unfold stepM
  cases h : M a m <;> rfl
def setT (M : Tb) (i j : Nat) : Tb := fun x y => if x = i ∧ y = j then true else M x y
/-- the table within the turn m: rows below i are done; row i is done below j -/
def mixA (M : Tb) (m i : Nat) : Tb := fun x y => if x < i then stepM M m x y else M x y
def mixB (M : Tb) (m i j : Nat) : Tb := fun x y => if x < i ∨ (x = i ∧ y < j) then stepM M m x y else M x y
theorem mixA_zero (M : Tb) (m : Nat) : mixA M m 0 = M := by
  funext x y
  unfold mixA
  rw [if_neg (by omega)]
theorem mixB_zero (M : Tb) (m i : Nat) : mixB M m i 0 = mixA M m i := by
  funext x y
  unfold mixB mixA
  by_cases h : x < i
  · rw [if_pos (.inl h), if_pos h]
  · rw [if_neg (by omega), if_neg h]
theorem mixA_at (M : Tb) (m i : Nat) : mixA M m i i m = M i m := by
  unfold mixA
  rw [if_neg (by omega)]
theorem mixA_skip {M : Tb} {m i : Nat} (h : M i m = false) : mixA M m (i + 1) = mixA M m i := by
  funext x y
  unfold mixA
  by_cases h1 : x < i
  · rw [if_pos h1, if_pos (by omega)]
  · by_cases h2 : x = i
    · subst h2
      rw [if_neg h1, if_pos (by omega)]
      unfold stepM
      rw [h]
      cases M x y <;> rfl
    · rw [if_neg h1, if_neg (by omega)]
theorem mixA_done (M : Tb) (m n x y : Nat) (hx : x < n) : mixA M m n x y = stepM M m x y := by
  unfold mixA
  rw [if_pos hx]
theorem mixB_mid (M : Tb) (m i j y : Nat) : mixB M m i j m y = M m y := by
  unfold mixB
  split
  · exact stepM_row M m y
  · rfl
theorem mixB_done (M : Tb) (m n i x y : Nat) (hy : y < n) : mixB M m i n x y = mixA M m (i + 1) x y := by
  unfold mixB mixA
  by_cases h1 : x < i
  · rw [if_pos (.inl h1), if_pos (by omega)]
  · by_cases h2 : x = i
    · rw [if_pos (.inr ⟨h2, hy⟩), if_pos (by omega)]
    · rw [if_neg (by omega), if_neg (by omega)]
theorem mixB_yes {M : Tb} {m i j : Nat} (h : M i m = true) (h2 : M m j = true) : setT (mixB M m i j) i j = mixB M m i (j + 1) := by
  funext x y
  unfold setT mixB
  by_cases h1 : x = i ∧ y = j
  · obtain ⟨rfl, rfl⟩ := h1
    rw [if_pos ⟨rfl, rfl⟩, if_pos (by omega)]
    unfold stepM
    rw [h, h2]
    cases M x y <;> rfl
  · rw [if_neg h1]
    by_cases h3 : x < i ∨ (x = i ∧ y < j)
    · rw [if_pos h3, if_pos (by omega)]
    · rw [if_neg h3, if_neg (by omega)]
theorem mixB_no {M : Tb} {m i j : Nat} (h2 : M m j = false) : mixB M m i j = mixB M m i (j + 1) := by
  funext x y
  unfold mixB
  by_cases h3 : x < i ∨ (x = i ∧ y < j)
  · rw [if_pos h3, if_pos (by omega)]
  · rw [if_neg h3]
    by_cases h1 : x = i ∧ y = j
    · obtain ⟨rfl, rfl⟩ := h1
      rw [if_pos (by omega)]
      unfold stepM
      rw [h2]
      cases M x y <;> cases M x m <;> rfl
    · rw [if_neg (by omega)]
theorem initM_nil : initM [] = fun _ _ => false := by
  funext x y
  unfold initM
  simp
theorem initM_more {ps : List (Int × Int)} {i a b : Nat} (h : ps[i]? = some ((a : Int), (b : Int))) : initM (ps.take (i + 1)) = setT (initM (ps.take i)) a b := by
  funext x y
  unfold initM setT
  rw [List.take_add_one, h]
  by_cases e : x = a ∧ y = b
  · obtain ⟨rfl, rfl⟩ := e
    rw [if_pos ⟨rfl, rfl⟩]
    simp
  · rw [if_neg e]
    have : ((x : Int), (y : Int)) ∈ ps.take i ++ [((a : Int), (b : Int))] ↔ ((x : Int), (y : Int)) ∈ ps.take i := by
      rw [List.mem_append, List.mem_singleton]
      constructor
      · rintro (q | q)
        · exact q
        · injection q with q1 q2
          exact absurd ⟨by omega, by omega⟩ e
      · exact .inl
    exact decide_eq_decide.mpr this
/-! ### it is closed, and no more than it must be -/
theorem upto_trans (M : Tb) : ∀ k m, m < k → ∀ a b, upto M k a m = true → upto M k m b = true → upto M k a b = true
  | 0, m, h, _, _, _, _ => by omega
  | k + 1, m, h, a, b, h1, h2 => by
    have ih := upto_trans M k
    rw [upto_succ] at h1 h2 ⊢
    by_cases e : m = k
    · subst e
      rw [stepM_col] at h1
      rw [stepM_row] at h2
      unfold stepM
      rw [h1, h2]
      cases upto M m a b <;> rfl
    · have hm : m < k := by omega
      unfold stepM at h1 h2 ⊢
      rw [Bool.or_eq_true, Bool.and_eq_true] at h1 h2 ⊢
      rcases h1 with h1 | ⟨h1, h1'⟩
      · rcases h2 with h2 | ⟨h2, h2'⟩
        · exact .inl (ih m hm a b h1 h2)
        · exact .inr ⟨ih m hm a k h1 h2, h2'⟩
      · rcases h2 with h2 | ⟨h2, h2'⟩
        · exact .inr ⟨h1, ih m hm k b h1' h2⟩
        · exact .inr ⟨h1, h2'⟩
theorem upto_le (M : Tb) : ∀ k a b, M a b = true → upto M k a b = true
  | 0, _, _, h => h
  | k + 1, a, b, h => by
    rw [upto_succ]
    unfold stepM
    rw [upto_le M k a b h]
    rfl
theorem upto_least {M : Tb} {R : Nat → Nat → Prop} (h0 : ∀ a b, M a b = true → R a b) (ht : ∀ a b c, R a b → R b c → R a c) : ∀ k a b, upto M k a b = true → R a b
  | 0, a, b, h => h0 a b h
  | k + 1, a, b, h => by
    have ih := upto_least h0 ht k
    rw [upto_succ] at h
    unfold stepM at h
    rw [Bool.or_eq_true, Bool.and_eq_true] at h
    rcases h with h | ⟨h1, h2⟩
    · exact ih a b h
    · exact ht a k b (ih a k h1) (ih k b h2)
theorem upto_congr {M M' : Tb} {n : Nat} (h : ∀ a b, a < n → b < n → M a b = M' a b) : ∀ k, k ≤ n → ∀ a b, a < n → b < n → upto M k a b = upto M' k a b
  | 0, _, a, b, ha, hb => h a b ha hb
  | k + 1, hk, a, b, ha, hb => by
    have ih := upto_congr h k (by omega)
    rw [upto_succ, upto_succ]
    unfold stepM
    rw [ih a b ha hb, ih a k ha (by omega), ih k b (by omega) hb]
end Few
/-! A table that is being made: its rows at unlike places. -/
namespace Few
open PySem PySem.Spec PyProof.Rows L2
structure TabAt (H0 H : Hp) (p : Addr) (rs : List Addr) (n : Nat) (M : Tb) : Prop where
  at_ : H p = some (.lst (rs.map V.ref))
  len : rs.length = n
  nd : rs.Nodup
  row : ∀ (i : Nat) (r : Addr), rs[i]? = some r → H r = some (.lst (rowV n (M i)))
  np : ∀ r ∈ rs, r ≠ p
  old : ∀ r ∈ rs, H0 r = none
  same : Same H0 H
  newp : H0 p = none
theorem TabAt.rows {H0 H : Hp} {p : Addr} {rs : List Addr} {n : Nat} {M : Tb} (h : TabAt H0 H p rs n M) : RowsAt H p n M := ⟨rs, h.at_, h.len, h.row⟩
theorem rowV_congr {n : Nat} {f g : Nat → Bool} (h : ∀ j, j < n → f j = g j) : rowV n f = rowV n g := by
  unfold rowV
  exact List.map_congr_left fun j hj => by rw [h j (List.mem_range.mp hj)]
theorem TabAt.congr {H0 H : Hp} {p : Addr} {rs : List Addr} {n : Nat} {M M' : Tb} (h : TabAt H0 H p rs n M) (e : ∀ x y, x < n → y < n → M x y = M' x y) : TabAt H0 H p rs n M' :=
  ⟨h.at_, h.len, h.nd, fun i r hr => by
    have hi : i < n := by rw [← h.len]; exact (List.getElem?_eq_some_iff.mp hr).1
    rw [h.row i r hr, rowV_congr fun j hj => e i j hi hj], h.np, h.old, h.same, h.newp⟩
theorem TabAt.get {H0 H : Hp} {p : Addr} {rs : List Addr} {n : Nat} {M : Tb} (h : TabAt H0 H p rs n M) {i : Nat} (hi : i < n) : ∃ r, rs[i]? = some r ∧ (rs.map V.ref)[i]? = some (.ref r) ∧ H r = some (.lst (rowV n (M i))) := by
  have hi' : i < rs.length := by rw [h.len]; exact hi
  have e := List.getElem?_eq_getElem hi'
  exact ⟨rs[i], e, by rw [List.getElem?_map, e] <;> rfl, h.row i _ e⟩
theorem rowV_set {n j : Nat} {f : Nat → Bool} (h : j < n) : (rowV n f).set j (.bl true) = rowV n (fun y => if y = j then true else f y) := by
  apply List.ext_getElem?
  intro k
  by_cases hk : k < n
  · rw [rowV_get hk, List.getElem?_set]
    by_cases e : j = k
    · rw [if_pos e, if_pos (by rw [rowV_len]; exact h), if_pos e.symm]
    · rw [if_neg e, rowV_get hk, if_neg (fun z => e z.symm)]
  · rw [List.getElem?_eq_none (by rw [List.length_set, rowV_len]; omega), List.getElem?_eq_none (by rw [rowV_len]; omega)]
theorem TabAt.set {H0 H : Hp} {p : Addr} {rs : List Addr} {n : Nat} {M : Tb} (h : TabAt H0 H p rs n M) {i j : Nat} {r : Addr} (hr : rs[i]? = some r) (hj : j < n) : TabAt H0 (upd H r (.lst ((rowV n (M i)).set j (.bl true)))) p rs n (setT M i j) := by
  have hm : r ∈ rs := List.mem_of_getElem? hr
  refine ⟨by rw [upd_ne (h.np r hm).symm]; exact h.at_, h.len, h.nd, fun k q hq => ?_, h.np, h.old, same_mut h.same (h.old r hm), h.newp⟩
  by_cases e : q = r
  · have ek : k = i := nd_ix h.nd (by rw [e] at hq; exact hq) hr
    rw [e, upd_same, rowV_set hj, ek]
    have : (fun y => if y = j then true else M i y) = setT M i j i := by
      funext y
      unfold setT
      by_cases e2 : y = j
      · rw [if_pos e2, if_pos ⟨rfl, e2⟩]
      · rw [if_neg e2, if_neg (fun z => e2 z.2)]
    rw [this]
  · have ek : k ≠ i := fun z => by rw [z, hr] at hq; exact e (Option.some.inj hq).symm
    rw [upd_ne e, h.row k q hq]
    have : setT M i j k = M k := by
      funext y
      unfold setT
      rw [if_neg (fun z => ek z.1)]
    rw [this]
theorem RowsAt.get {H : Hp} {p : Addr} {n : Nat} {M : Tb} (h : RowsAt H p n M) {i : Nat} (hi : i < n) : ∃ (rs : List Addr) (r : Addr), H p = some (.lst (rs.map V.ref)) ∧ (rs.map V.ref)[i]? = some (.ref r) ∧ H r = some (.lst (rowV n (M i))) := by
  obtain ⟨rs, h1, h2, h3⟩ := h
  have hi' : i < rs.length := by omega
  have e := List.getElem?_eq_getElem hi'
  exact ⟨rs, rs[i], h1, by rw [List.getElem?_map, e] <;> rfl, h3 i _ e⟩
theorem RowsAt.getn {H : Hp} {p : Addr} {n : Nat} {M : Tb} (h : RowsAt H p n M) {i : Nat} (hi : i < n) : ∃ (rs : List Addr) (r : Addr), H p = some (.lst (rs.map V.ref)) ∧ (rs.map V.ref)[i]? = some (.ref r) ∧ H r = some (.lst (rowV n (M i))) ∧ (rs.map V.ref).length = n := by
  obtain ⟨rs, h1, h2, h3⟩ := h
  have hi' : i < rs.length := by omega
  have e := List.getElem?_eq_getElem hi'
  exact ⟨rs, rs[i], h1, by rw [List.getElem?_map, e] <;> rfl, h3 i _ e, by rw [List.length_map]; exact h2⟩
theorem RowsAt.congr {H : Hp} {p : Addr} {n : Nat} {M M' : Tb} (h : RowsAt H p n M) (e : ∀ x y, x < n → y < n → M x y = M' x y) : RowsAt H p n M' := by
  obtain ⟨rs, h1, h2, h3⟩ := h
  exact ⟨rs, h1, h2, fun i r hr => by
    have hi : i < n := by rw [← h2]; exact (List.getElem?_eq_some_iff.mp hr).1
    rw [h3 i r hr, rowV_congr fun j hj => e i j hi hj]⟩
theorem at_zero {xs : List V} {j : Nat} {v : V} (h : xs[j]? = some v) : atI xs (0 + (j : Int)) = some v := at_of (by omega) h
theorem ixN_of {n j : Nat} (h : j < n) : ixN n (j : Int) = some j := by
  unfold ixN
  rw [if_pos (by omega), if_pos (by omega)]
  simp
theorem ixN_zero {n j : Nat} (h : j < n) : ixN n (0 + (j : Int)) = some j := by
  rw [show (0 : Int) + (j : Int) = (j : Int) by omega]
  exact ixN_of h
end Few
/-! Free deeds, lines: plain lists of numbers. -/
namespace Few
open PySem PySem.Spec PyProof.Rows L2
def natV (l : List Nat) : List V := l.map fun (x : Nat) => V.int (x : Int)
def NatsAt (H : Hp) (a : Addr) (l : List Nat) : Prop := H a = some (.lst (natV l))
theorem natV_ints (l : List Nat) : natV l = (l.map fun (x : Nat) => (x : Int)).map V.int := by
  unfold natV
  rw [List.map_map]
  rfl
theorem notSt_nats {l : List Nat} : NotSt (.lst (natV l)) := by rw [natV_ints]; exact notSt_ints
theorem NatsAt.keep {H H' : Hp} {a : Addr} {l : List Nat} (k : Keep H H') (h : NatsAt H a l) : NatsAt H' a l := k a _ notSt_nats h
theorem natV_len {l : List Nat} : (natV l).length = l.length := by unfold natV; rw [List.length_map]
theorem natV_get {l : List Nat} {i x : Nat} (h : l[i]? = some x) : (natV l)[i]? = some (.int (x : Int)) := by unfold natV; rw [List.getElem?_map, h] <;> rfl
theorem natV_of {l : List Nat} {i : Nat} {v : V} (h : (natV l)[i]? = some v) : ∃ x, l[i]? = some x ∧ v = .int (x : Int) := by
  unfold natV at h
  rw [List.getElem?_map] at h
  cases e : l[i]? with
  | none => rw [e] at h; cases h
  | some x => rw [e] at h; exact ⟨x, rfl, (Option.some.inj h).symm⟩
theorem natV_flat : ∀ l : List Nat, (natV l).all flatV = true
  | [] => rfl
  | x :: l => by show (flatV (.int x) && (natV l).all flatV) = true; rw [natV_flat l]; rfl
theorem inV_nat {z : Int} {d : Nat} (e : z = (d : Int)) : ∀ l : List Nat, inV (.int z) (natV l) = l.contains d
  | [] => rfl
  | x :: l => by
    have ih := inV_nat e l
    show (eqV (.int (x : Int)) (.int z) || inV (.int z) (natV l)) = _
    rw [ih, List.contains_cons]
    have : eqV (.int (x : Int)) (.int z) = (d == x) := by
      show ((x : Int) == z) = (d == x)
      rw [e]
      by_cases h : d = x
      · subst h; simp
      · have h2 : ¬ ((x : Int) = (d : Int)) := by omega
        have h3 : (d == x) = false := by simpa using h
        rw [h3]
        simpa using h2
    rw [this]
theorem natV_append (l m : List Nat) : natV (l ++ m) = natV l ++ natV m := by unfold natV; rw [List.map_append]
theorem nodup_le {α : Type} [DecidableEq α] : ∀ {l m : List α}, l.Nodup → (∀ x ∈ l, x ∈ m) → l.length ≤ m.length
  | [], _, _, _ => Nat.zero_le _
  | a :: l, m, nd, h => by
    have ha : a ∈ m := h a (by simp)
    have ih := nodup_le (l := l) (m := m.erase a) (List.nodup_cons.mp nd).2 fun x hx => by
      have : x ≠ a := fun e => (List.nodup_cons.mp nd).1 (e ▸ hx)
      exact (List.mem_erase_of_ne this).mpr (h x (List.mem_cons_of_mem _ hx))
    rw [List.length_erase_of_mem ha] at ih
    have := List.length_pos_of_mem ha
    rw [List.length_cons]
    omega
theorem perm_of_nodup {α : Type} [DecidableEq α] {l m : List α} (nl : l.Nodup) (nm : m.Nodup) (h : ∀ x ∈ l, x ∈ m) (e : m.length ≤ l.length) : l.Perm m := by
  rw [List.perm_iff_count]
  intro a
  have k : a ∈ l ↔ a ∈ m := ⟨h a, fun ha => Decidable.byContradiction fun hn => by
    have := nodup_le (l := a :: l) (m := m) (List.nodup_cons.mpr ⟨hn, nl⟩) fun x hx => by
      rcases List.mem_cons.mp hx with rfl | hx
      · exact ha
      · exact h x hx
    rw [List.length_cons] at this
    omega⟩
  rw [nl.count, nm.count]
  by_cases ha : a ∈ l
  · rw [if_pos ha, if_pos (k.mp ha)]
  · rw [if_neg ha, if_neg fun z => ha (k.mpr z)]
theorem filter_yes {α : Type} {p : α → Bool} {x : α} (h : p x = true) : List.filter p [x] = [x] := by rw [List.filter_cons_of_pos h] <;> rfl
theorem filter_no {α : Type} {p : α → Bool} {x : α} (h : ¬ p x = true) : List.filter p [x] = [] := by rw [List.filter_cons_of_neg h] <;> rfl
def freeOf (n : Nat) (M : Tb) (done : List Nat) (d : Nat) : Bool := !done.contains d && ((List.range n).filter fun a => M a d).all fun a => done.contains a
def freeL (n : Nat) (M : Tb) (done : List Nat) : List Nat := (List.range n).filter (freeOf n M done)
theorem free_mem {n : Nat} {M : Tb} {done : List Nat} {d : Nat} : d ∈ freeL n M done ↔ d < n ∧ d ∉ done ∧ ∀ a, a < n → M a d = true → a ∈ done := by
  unfold freeL freeOf
  rw [List.mem_filter, List.mem_range, Bool.and_eq_true, Bool.not_eq_true', List.all_eq_true]
  rw [Bool.eq_false_iff, ne_eq, List.contains_iff_mem]
  constructor
  · rintro ⟨h1, h2, h3⟩
    refine ⟨h1, h2, fun a ha hm => ?_⟩
    exact List.contains_iff_mem.mp (h3 a (List.mem_filter.mpr ⟨List.mem_range.mpr ha, hm⟩))
  · rintro ⟨h1, h2, h3⟩
    refine ⟨h1, h2, fun a ha => ?_⟩
    rw [List.mem_filter, List.mem_range] at ha
    exact List.contains_iff_mem.mpr (h3 a ha.1 ha.2)
/-- a relation that rises -/
def Rises (n : Nat) (M : Tb) : Prop := ∃ rank : Nat → Nat, ∀ a b, a < n → b < n → M a b = true → rank a < rank b
theorem least_of (r : Nat → Nat) : ∀ l : List Nat, l ≠ [] → ∃ m ∈ l, ∀ x ∈ l, r m ≤ r x
  | [], h => absurd rfl h
  | [a], _ => ⟨a, by simp, by simp⟩
  | a :: b :: l, _ => by
    obtain ⟨m, h1, h2⟩ := least_of r (b :: l) (by simp)
    by_cases h : r a ≤ r m
    · refine ⟨a, by simp, fun x hx => ?_⟩
      rcases List.mem_cons.mp hx with rfl | hx
      · exact Nat.le_refl _
      · exact Nat.le_trans h (h2 x hx)
    · refine ⟨m, List.mem_cons_of_mem _ h1, fun x hx => ?_⟩
      rcases List.mem_cons.mp hx with rfl | hx
      · omega
      · exact h2 x hx
theorem free_some {n : Nat} {M : Tb} {done : List Nat} (hr : Rises n M) (hn : done.length < n) : freeL n M done ≠ [] := by
  obtain ⟨r, hr⟩ := hr
  have h0 : (List.range n).filter (fun d => !done.contains d) ≠ [] := fun e => by
    have h1 : ∀ d ∈ List.range n, d ∈ done := fun d hd => by
      have := List.filter_eq_nil_iff.mp e d hd
      rw [Bool.not_eq_true, Bool.not_eq_false'] at this
      exact List.contains_iff_mem.mp this
    have h2 := List.nodup_range (n := n)
    have h3 : (List.range n).length ≤ done.length := nodup_le h2 h1
    rw [List.length_range] at h3
    omega
  obtain ⟨m, h1, h2⟩ := least_of r _ h0
  rw [List.mem_filter, List.mem_range] at h1
  have hm : m ∈ freeL n M done := by
    rw [free_mem]
    refine ⟨h1.1, fun h => ?_, fun a ha hM => ?_⟩
    · have := h1.2
      rw [List.contains_iff_mem.mpr h] at this
      cases this
    · cases e : done.contains a with
      | true => exact List.contains_iff_mem.mp e
      | false =>
        have h3 := h2 a (List.mem_filter.mpr ⟨List.mem_range.mpr ha, by rw [e]; rfl⟩)
        have h4 := hr a m ha h1.1 hM
        omega
  exact fun e => by rw [e] at hm; simp at hm
/-- a line: each deed once, none behind one that is not ahead -/
structure LineOf (n : Nat) (M : Tb) (ds : List Nat) : Prop where
  perm : ds.Perm (List.range n)
  ord : ds.Pairwise fun x y => M y x = false
/-- a line so far -/
structure LineTo (n : Nat) (M : Tb) (ds : List Nat) : Prop where
  nd : ds.Nodup
  lt : ∀ d ∈ ds, d < n
  ord : ds.Pairwise fun x y => M y x = false
  down : ∀ d ∈ ds, ∀ a, a < n → M a d = true → a ∈ ds
theorem lineTo_nil {n : Nat} {M : Tb} : LineTo n M [] := ⟨List.nodup_nil, by simp, List.Pairwise.nil, by simp⟩
theorem LineTo.snoc {n : Nat} {M : Tb} {ds : List Nat} {d : Nat} (h : LineTo n M ds) (hd : d ∈ freeL n M ds) : LineTo n M (ds ++ [d]) := by
  rw [free_mem] at hd
  obtain ⟨h1, h2, h3⟩ := hd
  refine ⟨?_, ?_, ?_, ?_⟩
  · rw [List.nodup_append]
    refine ⟨h.nd, by simp, fun a ha b hb => ?_⟩
    rw [List.mem_singleton] at hb
    rintro rfl
    exact h2 (hb ▸ ha)
  · intro x hx
    rcases List.mem_append.mp hx with hx | hx
    · exact h.lt x hx
    · rw [List.mem_singleton] at hx; rw [hx]; exact h1
  · rw [List.pairwise_append]
    refine ⟨h.ord, List.pairwise_singleton _ _, fun x hx y hy => ?_⟩
    rw [List.mem_singleton] at hy
    rw [hy]
    cases e : M d x with
    | false => rfl
    | true => exact absurd (h.down x hx d h1 e) h2
  · intro x hx a ha hM
    rcases List.mem_append.mp hx with hx | hx
    · exact List.mem_append_left _ (h.down x hx a ha hM)
    · rw [List.mem_singleton] at hx
      rw [hx] at hM
      exact List.mem_append_left _ (h3 a ha hM)
theorem LineTo.full {n : Nat} {M : Tb} {ds : List Nat} (h : LineTo n M ds) (e : ds.length = n) : LineOf n M ds := by
  refine ⟨?_, h.ord⟩
  exact perm_of_nodup h.nd List.nodup_range (fun d hd => List.mem_range.mpr (h.lt d hd)) (by rw [List.length_range]; omega)
def aheadP (n : Nat) (M : Tb) : List (Int × Int) := (List.range n).flatMap fun (a : Nat) => ((List.range n).filter (M a)).map fun (b : Nat) => ((a : Int), (b : Int))
theorem aheadP_mem {n : Nat} {M : Tb} {p : Int × Int} : p ∈ aheadP n M ↔ ∃ a b : Nat, a < n ∧ b < n ∧ M a b = true ∧ p = ((a : Int), (b : Int)) := by
  unfold aheadP
  rw [List.mem_flatMap]
  constructor
  · rintro ⟨a, ha, h⟩
    rw [List.mem_map] at h
    obtain ⟨b, hb, e⟩ := h
    rw [List.mem_filter, List.mem_range] at hb
    exact ⟨a, b, List.mem_range.mp ha, hb.1, hb.2, e.symm⟩
  · rintro ⟨a, b, ha, hb, hM, rfl⟩
    exact ⟨a, List.mem_range.mpr ha, List.mem_map.mpr ⟨b, List.mem_filter.mpr ⟨List.mem_range.mpr hb, hM⟩, rfl⟩⟩
end Few
set_option maxHeartbeats 2000000
namespace Few
open PySem PySem.Spec PyProof.Rows L2
/-- the script's ints become a store -/
def sp_store (K : PySem.W.Frag) : Sp := fun vs H Q _ => ∃ (a : Addr) (ns : List Int), vs = [.ref a] ∧ SqL K H a (ns.map V.int) ∧ ns.length ≤ 1000 ∧
  ∀ (p c : Addr) (H' : Hp), Same H H' → StoreAt H' p c → Q (.ref p) H'
def sp_pick (_ : PySem.W.Frag) : Sp := fun vs H Q _ => ∃ (s c l : Addr) (xs : List V), vs = [.ref s, .ref l] ∧ StoreAt H s c ∧ H l = some (.lst xs) ∧ l ≠ s ∧ xs ≠ [] ∧ xs.length ≤ 100000 ∧
  ∀ (x : V) (H' : Hp), x ∈ xs → Fr s H H' → StoreAt H' s c → Q x H'
def sp_mixed (_ : PySem.W.Frag) : Sp := fun vs H Q _ => ∃ (s c l : Addr) (xs : List V), vs = [.ref s, .ref l] ∧ StoreAt H s c ∧ H l = some (.lst xs) ∧ l ≠ s ∧ xs.length ≤ 100000 ∧
  ∀ (p : Addr) (ys : List V) (H' : Hp), ys.Perm xs → H p = none → H' p = some (.lst ys) → Fr s H H' → StoreAt H' s c → Q (.ref p) H'
theorem small9000 {m : Int} (h0 : 0 ≤ m) (h : m ≤ 1000000) : m.natAbs < 2 ^ 9000 := Nat.lt_of_lt_of_le (show m.natAbs < 2 ^ 20 by omega) (Nat.pow_le_pow_right (by decide) (by decide))
theorem size_le {n : Nat} (h : n ≤ 1000000) : n ≤ sizeLine := Nat.le_trans h (by decide)
theorem size_lt {n : Nat} (h : n < 1000000) : n < sizeLine := Nat.lt_of_lt_of_le h (by decide)
theorem perm_take {α : Type} {xs : List α} {i : Nat} {x : α} {ys : List α} (h : xs[i]? = some x) (p : ys.Perm (xs.take i)) (j : Nat) : (ys.take j ++ [x] ++ ys.drop j).Perm (xs.take (i + 1)) := by
  have e : xs.take (i + 1) = xs.take i ++ [x] := by rw [List.take_add_one, h] <;> rfl
  rw [e]
  have p1 : (ys.take j ++ [x] ++ ys.drop j).Perm (ys.take j ++ (ys.drop j ++ [x])) := by
    rw [List.append_assoc]
    exact List.Perm.append_left _ List.perm_append_comm
  rw [← List.append_assoc, List.take_append_drop] at p1
  exact p1.trans (p.append_right _)
section
variable {P : Program} {w : World} {K : PySem.W.Frag} {mg : Str → Option Value} {base : Heap}
abbrev s_store : Stmt := topS 26
theorem sc_store : FnScope ["script", "cells", "cell"] ["script"] (defScope s_store) := ⟨rfl, rfl, rfl, by decide +kernel, rfl, by decide +kernel, by decide +kernel⟩
theorem ok_store {f : Addr} {fd : FuncData} (F : Fun K "_law_store" "_law_store" s_store f fd) (T : Blt mg) : FnOk P w K mg base CX0 1 f fd ["script"] (sp_store K) := by
  refine F.ok sc_store (fun vs H Q E h => ?_) (fun cdv A outer s H vs Q E hr h => ?_)
  · obtain ⟨_, _, rfl, _⟩ := h
    rfl
  · obtain ⟨a, ns, rfl, ha, hl, q⟩ := h
    refine ⟨_, (pss_cons (ps_setLc (i := 1) (own := [("cell", 2)]) (g := gName 2) (tt := tYes) rfl sc_store.nd rfl rfl (sw_true rfl rfl rfl (by decide +kernel)) (pi_list (pv 0)) (blkOk_by (N := ["script", "cells", "cell"]) (sc := defScope s_store) (by decide +kernel)) (fun _ _ _ _ _ => (pg_name (i := 2) sc_store.nd rfl (Or.inl rfl))) (fun _ _ _ _ _ => pts_nil) (fun _ _ _ _ _ => (pe_callTy call_int1 (by rfl) T.int (by decide +kernel) (pa_cons (pv 2) pa_nil))))
    (pss_one (ps_ret (pe_lst (pa_cons (pv 1) (pa_cons pe_int (pa_cons pe_int (pa_cons pe_int (pa_cons (pe_op op_add pe_int (pe_callB call_len_seq (by rfl) T.len PySem.boot_len (pa_cons (pv 1) pa_nil))) (pa_cons pe_int pa_nil)))))))))), ?_⟩
    -- cells = [int(cell) for cell in script]
    refine ⟨_, rfl, _, rfl, ⟨_, ha⟩, fun D hD => lc_list (xs := ns.map V.int) (fun i H1 => Same H H1 ∧ H1 D = some (.lst ((ns.take i).map V.int))) ⟨same_new hD, upd_same⟩ (fun i H1 _ h => h.1.seq ha) ?_ ?_⟩
    · rintro i x H1 hx ⟨sm, hd⟩
      rw [List.getElem?_map] at hx
      cases e : ns[i]? with
      | none => rw [e] at hx; cases hx
      | some z =>
        rw [e] at hx
        obtain rfl : x = .int z := (Option.some.inj hx).symm
        have hi : i < ns.length := (List.getElem?_eq_some_iff.mp e).1
        refine ⟨rfl, _, rfl, .inl ⟨_, rfl, _, hd, by rw [List.length_map, List.length_take]; exact size_lt (by omega), same_mut sm hD, ?_⟩⟩
        rw [upd_same, List.take_add_one, e, List.map_append]
        rfl
    · rintro H1 ⟨sm, hd⟩
      rw [List.length_map, List.take_length] at hd
      -- return [cells, 0, 0, 0, 1 + len(cells), 0]
      refine ⟨_, rfl, _, rfl, _, _, rfl, .inl (SqL.of hd), _, _, rfl, rfl, (by show 6 ≤ sizeLine; decide), fun p np => ?_⟩
      exact q p D _ (sm.trans (same_new np)) ⟨ns, _, _, _, _, _, upd_same, by rw [upd_ne (ne_of_none hd np)]; exact hd, Int.le_refl _⟩
abbrev s_pick : Stmt := topS 28
theorem sc_pick : FnScope ["store", "items"] ["store", "items"] (defScope s_pick) := ⟨rfl, rfl, rfl, by decide +kernel, rfl, by decide +kernel, by decide +kernel⟩
theorem ok_pick {f : Addr} {fd : FuncData} {f_take : Addr} {fd_take : FuncData} (F : Fun K "_law_pick" "_law_pick" s_pick f fd) (T : Blt mg) (C_take : Cal K mg "_law_take" f_take fd_take ["store", "many"]) (G_take : FnOk P w K mg base CX0 1 f_take fd_take ["store", "many"] (sp_take K)) : FnOk P w K mg base CX0 2 f fd ["store", "items"] (sp_pick K) := by
  refine F.ok sc_pick (fun vs H Q E h => ?_) (fun cdv A outer s H vs Q E hr h => ?_)
  · obtain ⟨_, _, _, _, rfl, _⟩ := h
    rfl
  · obtain ⟨st, c, l, xs, rfl, hS, hl, nls, hx, hlen, q⟩ := h
    refine ⟨_, (pss_one (ps_ret (pe_ix ix_list (pv 1) (pe_call G_take (hr.mono (by decide)) (by rfl) C_take.g C_take.kp C_take.b .nil pass0 (pa_cons (pv 0) (pa_cons (pe_callB call_len_seq (by rfl) T.len PySem.boot_len (pa_cons (pv 1) pa_nil)) pa_nil))) (fun _ _ => rfl)))), ?_⟩
    have hp : 0 < xs.length := List.length_pos_iff.mpr hx
    refine ⟨_, rfl, _, rfl, _, rfl, _, _, rfl, .inl (SqL.of hl), _, c, _, rfl, hS, small9000 (by omega) (by omega), fun r H1 r0 r1 fr st1 => ?_⟩
    obtain ⟨n, rfl⟩ := Int.eq_ofNat_of_zero_le r0
    have hn : n < xs.length := by omega
    refine ⟨_, _, _, _, rfl, rfl, SqL.of (fr _ _ nls hl), atI_nat (List.getElem?_eq_getElem hn), ?_⟩
    exact q _ _ (List.getElem_mem hn) fr st1
abbrev s_mixed : Stmt := topS 29
theorem sc_mixed : FnScope ["store", "items", "sort", "row", "item", "place"] ["store", "items"] (defScope s_mixed) := ⟨rfl, rfl, rfl, by decide +kernel, rfl, by decide +kernel, by decide +kernel⟩
theorem ok_mixed {f : Addr} {fd : FuncData} {f_take : Addr} {fd_take : FuncData} (F : Fun K "_law_mixed" "_law_mixed" s_mixed f fd) (T : Blt mg) (C_take : Cal K mg "_law_take" f_take fd_take ["store", "many"]) (G_take : FnOk P w K mg base CX0 1 f_take fd_take ["store", "many"] (sp_take K)) : FnOk P w K mg base CX0 2 f fd ["store", "items"] (sp_mixed K) := by
  refine F.ok sc_mixed (fun vs H Q E h => ?_) (fun cdv A outer s H vs Q E hr h => ?_)
  · obtain ⟨_, _, _, _, rfl, _⟩ := h
    rfl
  · obtain ⟨st, c, l, xs, rfl, hS, hl, nls, hlen, q⟩ := h
    refine ⟨_, (pss_cons (ps_set (i := 2) sc_mixed.nd rfl (Or.inl rfl) (pe_call G_take (hr.mono (by decide)) (by rfl) C_take.g C_take.kp C_take.b .nil pass0 (pa_cons (pv 0) (pa_cons pe_int pa_nil))))
    (pss_cons (ps_set (i := 3) sc_mixed.nd rfl (Or.inl rfl) (pe_lst pa_nil))
    (pss_cons (ps_for PassesOwn.never rfl (pi_list (pv 1)) (pg_name (i := 4) sc_mixed.nd rfl (Or.inl rfl))
      (pss_cons (ps_set (i := 5) sc_mixed.nd rfl (Or.inl rfl) (pe_callB call_len_seq (by rfl) T.len PySem.boot_len (pa_cons (pv 3) pa_nil)))
        (C8.pss_cut (ps_if (pt_cmpR op_eq (pv 2) pe_int (nomark _))
          (pss_one (ps_set (i := 5) sc_mixed.nd rfl (Or.inl rfl) pe_int))
          pss_nil)
        (C8.pss_cut (ps_if (pt_cmpR op_gt (pv 2) pe_int (nomark _))
          (pss_one (ps_set (i := 5) sc_mixed.nd rfl (Or.inl rfl) (pe_call G_take (hr.mono (by decide)) (by rfl) C_take.g C_take.kp C_take.b .nil pass0 (pa_cons (pv 0) (pa_cons (pe_op op_add (pe_callB call_len_seq (by rfl) T.len PySem.boot_len (pa_cons (pv 3) pa_nil)) pe_int) pa_nil)))))
          pss_nil)
        (pss_one (ps_expr (pe_bm PySem.F.plainAttrs_list PySem.F.slot_list_insert PySem.F.type_list_insert mt_insert (pv 3) (pa_cons (pv 5) (pa_cons (pv 4) pa_nil)))))))))
    (pss_one (ps_ret (pv 3)))))), ?_⟩
    -- sort = _law_take(store, 6)
    refine ⟨_, rfl, st, c, _, rfl, hS, small9000 (by decide) (by decide), fun srt H1 _ _ fr1 st1 => ?_⟩
    -- row = []
    refine ⟨(by show 0 ≤ sizeLine; decide), fun p np => ?_⟩
    have hp0 : H p = none := by
      cases e : H p with
      | none => rfl
      | some o =>
        have := fr1 p o (ne_new st1 np) e
        rw [np] at this; cases this
    have npl : l ≠ p := ne_of_none hl hp0
    -- for item in items:
    refine ⟨_, rfl, _, rfl, ⟨_, SqL.of (by rw [upd_ne npl]; exact fr1 _ _ nls hl)⟩, for_list (xs := xs) (fun i σ H2 => ∃ (ys : List V) (x4 x5 : Option V), σ = [some (.ref st), some (.ref l), some (.int srt), some (.ref p), x4, x5] ∧ ys.Perm (xs.take i) ∧ H2 p = some (.lst ys) ∧ Fr st H H2 ∧ StoreAt H2 st c)
      ⟨[], none, none, rfl, List.Perm.refl _, upd_same, fr1.mut hp0, st1.new np⟩ (fun i σ H2 _ h => ?_) ?_ ?_⟩
    · obtain ⟨_, _, _, _, _, _, h, _⟩ := h
      exact SqL.of (h _ _ nls hl)
    · rintro i x σ H2 hx ⟨ys, x4, x5, rfl, pm, hy, fr2, st2⟩
      have hi : i < xs.length := (List.getElem?_eq_some_iff.mp hx).1
      have hyl : ys.length = i := by rw [pm.length_eq, List.length_take]; omega
      refine ⟨_, rfl, _, _, rfl, .inl (SqL.of hy), ?_⟩
      refine ⟨fun σ' H' => ∃ z : Int, σ' = [some (.ref st), some (.ref l), some (.int srt), some (.ref p), some x, some (.int z)] ∧ 0 ≤ z ∧ z ≤ i ∧ H' = H2, ?_, ?_⟩
      · refine ⟨_, rfl, rfl, _, rfl, ite2 (fun c2 => ?_) (fun c2 => ?_)⟩
        · exact ⟨0, rfl, by omega, by omega, rfl⟩
        · exact ⟨_, rfl, by omega, by omega, rfl⟩
      · rintro σ' H' ⟨z, rfl, z0, z1, rfl⟩
        refine ⟨fun σ' H' => ∃ z : Int, σ' = [some (.ref st), some (.ref l), some (.int srt), some (.ref p), some x, some (.int z)] ∧ 0 ≤ z ∧ z ≤ i ∧ H' p = some (.lst ys) ∧ Fr st H H' ∧ StoreAt H' st c, ?_, ?_⟩
        · refine ⟨_, rfl, _, _, rfl, rfl, _, rfl, ite2 (fun c2 => ?_) (fun c2 => ?_)⟩
          · refine ⟨_, rfl, _, rfl, _, _, rfl, .inl (SqL.of hy), _, _, rfl, rfl, st, c, _, rfl, st2, small9000 (by omega) (by omega), fun r H3 r0 r1 fr3 st3 => ?_⟩
            exact ⟨r, rfl, r0, by omega, fr3 _ _ (ne_new hS hp0) hy, fr2.trans fr3, st3⟩
          · exact ⟨z, rfl, z0, z1, hy, fr2, st2⟩
        · rintro σ' H' ⟨z, rfl, z0, z1, hy, fr3, st3⟩
          refine ⟨_, rfl, .inl ⟨rfl, _, SqL.of hy⟩, _, rfl, _, rfl, _, _, _, _, rfl, rfl, hy, size_lt (by omega), z0, by omega, ?_⟩
          exact ⟨_, _, _, rfl, perm_take hx pm z.toNat, upd_same, fr3.mut hp0, hS.mut hp0 st3⟩
    · rintro σ H2 ⟨ys, x4, x5, rfl, pm, hy, fr2, st2⟩
      rw [List.take_length] at pm
      exact ⟨_, rfl, q p ys H2 pm hp0 hy fr2 st2⟩
end
end Few
set_option maxHeartbeats 2000000
namespace Few
open PySem PySem.Spec PyProof.Rows L2
theorem RowsAt.len {H : Hp} {p : Addr} {n : Nat} {M : Tb} (h : RowsAt H p n M) : ∃ xs, H p = some (.lst xs) ∧ xs.length = n := by
  obtain ⟨rs, h1, h2, _⟩ := h
  exact ⟨_, h1, by rw [List.length_map]; exact h2⟩
def sp_ring (_ : PySem.W.Frag) : Sp := fun vs H Q _ => ∃ (p : Addr) (n : Nat) (M : Tb), vs = [.ref p] ∧ RowsAt H p n M ∧ n ≤ 1000 ∧
  ∀ v : V, (v = .non ∧ ∀ x, x < n → M x x = false) ∨ (∃ x : Nat, x < n ∧ M x x = true ∧ v = .int x) → Q v H
def sp_beside (_ : PySem.W.Frag) : Sp := fun vs H Q _ => ∃ (p : Addr) (n : Nat) (M : Tb) (a b : Nat), vs = [.ref p, .int a, .int b] ∧ RowsAt H p n M ∧ a < n ∧ b < n ∧
  Q (.bl (!decide (a = b) && (!M a b && !M b a))) H
def sp_ahead_pairs (_ : PySem.W.Frag) : Sp := fun vs H Q _ => ∃ (p : Addr) (n : Nat) (M : Tb), vs = [.ref p] ∧ RowsAt H p n M ∧ n ≤ 100 ∧
  ∀ (l : Addr) (H' : Hp), Same H H' → H l = none → PairsAt H' l (aheadP n M) → Q (.ref l) H'
def sp_free (_ : PySem.W.Frag) : Sp := fun vs H Q _ => ∃ (p d : Addr) (n : Nat) (M : Tb) (done : List Nat), vs = [.ref p, .ref d] ∧ RowsAt H p n M ∧ n ≤ 1000 ∧ NatsAt H d done ∧
  ∀ (l : Addr) (H' : Hp), Same H H' → H l = none → NatsAt H' l (freeL n M done) → Q (.ref l) H'
theorem aheadP_len {n : Nat} {M : Tb} : ∀ k, ((List.range k).flatMap fun (a : Nat) => ((List.range n).filter (M a)).map fun (b : Nat) => ((a : Int), (b : Int))).length ≤ k * n
  | 0 => by simp
  | k + 1 => by
    rw [List.range_succ, List.flatMap_append, List.length_append]
    have ih := aheadP_len (n := n) (M := M) k
    have h : ((List.flatMap (fun (a : Nat) => ((List.range n).filter (M a)).map fun (b : Nat) => ((a : Int), (b : Int))) [k])).length ≤ n := by
      rw [List.flatMap_singleton, List.length_map]
      exact Nat.le_trans (List.length_filter_le _ _) (by rw [List.length_range]; exact Nat.le_refl _)
    rw [Nat.succ_mul]
    omega
section
variable {P : Program} {w : World} {K : PySem.W.Frag} {mg : Str → Option Value} {base : Heap}
abbrev s_ring : Stmt := topS 31
theorem sc_ring : FnScope ["rows", "x"] ["rows"] (defScope s_ring) := ⟨rfl, rfl, rfl, by decide +kernel, rfl, by decide +kernel, by decide +kernel⟩
theorem ok_ring {f : Addr} {fd : FuncData} (F : Fun K "_law_ring" "_law_ring" s_ring f fd) (T : Blt mg) : FnOk P w K mg base CX0 1 f fd ["rows"] (sp_ring K) := by
  refine F.ok sc_ring (fun vs H Q E h => ?_) (fun cdv A outer s H vs Q E hr h => ?_)
  · obtain ⟨_, _, _, rfl, _⟩ := h
    rfl
  · obtain ⟨p, n, M, rfl, hR, hn, q⟩ := h
    refine ⟨_, (pss_cons (ps_for PassesOwn.never rfl (pi_range1 rfl T.range (pa_cons (pe_callB (lenK K) (by rfl) T.len PySem.boot_len (pa_cons (pv 0) pa_nil)) pa_nil)) (pg_name (i := 1) sc_ring.nd rfl (Or.inl rfl))
      (pss_one (ps_if (pt_val (pe_ix (ixL K) (pe_ix (ixL K) (pv 0) (pv 1) (fun _ _ => rfl)) (pv 1) (fun _ _ => rfl)))
          (pss_one (ps_ret (pv 1)))
          pss_nil)))
    (pss_one (ps_ret pe_non))), ?_⟩
    obtain ⟨xs, hx, hxl⟩ := hR.len
    refine ⟨_, rfl, _, _, rfl, .inl (SqL.of hx), _, rfl, (by omega), (by omega), for_range (lo := 0) (n := xs.length) (fun i σ H1 => ∃ y1, σ = [some (.ref p), y1] ∧ H1 = H ∧ ∀ x, x < i → M x x = false) ⟨none, rfl, rfl, fun x hx => by omega⟩ ?_ ?_⟩
    · rintro i σ H1 hi ⟨y1, rfl, rfl, h1⟩
      obtain ⟨rs, r, g1, g2, g3⟩ := hR.get (i := i) (by omega)
      refine ⟨_, rfl, _, rfl, _, _, _, _, rfl, rfl, SqL.of g1, at_zero g2, _, rfl, _, _, _, _, rfl, rfl, SqL.of g3, at_zero (rowV_get (by omega)), _, rfl, ite2 (fun c => ?_) (fun c => ?_)⟩
      · refine ⟨_, rfl, q _ (.inr ⟨i, by omega, c, ?_⟩)⟩
        rw [Int.zero_add]
      · refine ⟨_, rfl, rfl, fun x hx => ?_⟩
        by_cases e : x = i
        · rw [e]; exact Bool.not_eq_true _ |>.mp c
        · exact h1 x (by omega)
    · rintro σ H1 ⟨y1, rfl, rfl, h1⟩
      exact q _ (.inl ⟨rfl, fun x hx => h1 x (by omega)⟩)
abbrev s_beside : Stmt := topS 32
theorem sc_beside : FnScope ["rows", "a", "b"] ["rows", "a", "b"] (defScope s_beside) := ⟨rfl, rfl, rfl, by decide +kernel, rfl, by decide +kernel, by decide +kernel⟩
theorem ok_beside {f : Addr} {fd : FuncData} (F : Fun K "_law_beside" "_law_beside" s_beside f fd) (T : Blt mg) : FnOk P w K mg base CX0 1 f fd ["rows", "a", "b"] (sp_beside K) := by
  refine F.ok sc_beside (fun vs H Q E h => ?_) (fun cdv A outer s H vs Q E hr h => ?_)
  · obtain ⟨_, _, _, _, _, rfl, _⟩ := h
    rfl
  · obtain ⟨p, n, M, a, b, rfl, hR, ha, hb, q⟩ := h
    refine ⟨_, (pss_one (ps_ret (pe_and (pe_cmpR op_ne (pv 1) (pv 2) (nomark _)) (pe_and (pe_not (pe_ix (ixL K) (pe_ix (ixL K) (pv 0) (pv 1) (fun _ _ => rfl)) (pv 2) (fun _ _ => rfl))) (pe_one (pe_not (pe_ix (ixL K) (pe_ix (ixL K) (pv 0) (pv 2) (fun _ _ => rfl)) (pv 1) (fun _ _ => rfl)))))))), ?_⟩
    obtain ⟨rs, r, g1, g2, g3⟩ := hR.get ha
    obtain ⟨rs', r', g1', g2', g3'⟩ := hR.get hb
    have e : decide ((V.int (a : Int)) = V.int (b : Int)) = decide (a = b) := decide_eq_decide.mpr ⟨fun z => by injection z with z; omega, fun z => by rw [z]⟩
    refine ⟨_, rfl, _, rfl, rfl, _, rfl, ?_⟩
    rw [e]
    cases hc : decide (a = b) with
    | true =>
      rw [hc] at q
      exact q
    | false =>
      rw [hc] at q
      refine ⟨_, rfl, _, rfl, _, _, _, _, rfl, rfl, SqL.of g1, atI_nat g2, _, rfl, _, _, _, _, rfl, rfl, SqL.of g3, atI_nat (rowV_get hb), _, rfl, _, rfl, ?_⟩
      cases hm : M a b with
      | true =>
        rw [hm] at q
        exact q
      | false =>
        rw [hm] at q
        exact ⟨_, rfl, _, rfl, _, _, _, _, rfl, rfl, SqL.of g1', atI_nat g2', _, rfl, _, _, _, _, rfl, rfl, SqL.of g3', atI_nat (rowV_get ha), _, rfl, q⟩
abbrev s_ahead_pairs : Stmt := topS 33
theorem sc_ahead_pairs : FnScope ["rows", "pairs", "a", "b"] ["rows"] (defScope s_ahead_pairs) := ⟨rfl, rfl, rfl, by decide +kernel, rfl, by decide +kernel, by decide +kernel⟩
theorem ok_ahead_pairs {f : Addr} {fd : FuncData} (F : Fun K "_law_ahead_pairs" "_law_ahead_pairs" s_ahead_pairs f fd) (T : Blt mg) : FnOk P w K mg base CX0 1 f fd ["rows"] (sp_ahead_pairs K) := by
  refine F.ok sc_ahead_pairs (fun vs H Q E h => ?_) (fun cdv A outer s H vs Q E hr h => ?_)
  · obtain ⟨_, _, _, rfl, _⟩ := h
    rfl
  · obtain ⟨p, n, M, rfl, hR, hn, q⟩ := h
    refine ⟨_, (pss_cons (ps_set (i := 1) sc_ahead_pairs.nd rfl (Or.inl rfl) (pe_lst pa_nil))
    (pss_cons (ps_for PassesOwn.never rfl (pi_range1 rfl T.range (pa_cons (pe_callB (lenK K) (by rfl) T.len PySem.boot_len (pa_cons (pv 0) pa_nil)) pa_nil)) (pg_name (i := 2) sc_ahead_pairs.nd rfl (Or.inr rfl))
      (pss_one (ps_expr (pe_bm PySem.F.plainAttrs_list PySem.F.slot_list_extend PySem.F.type_list_extend mt_extend (pv 1) (pa_cons (pe_lc (own := [("b", 3)]) (g := gName 3) rfl sc_ahead_pairs.nd (pi_range1 rfl T.range (pa_cons (pe_callB (lenK K) (by rfl) T.len PySem.boot_len (pa_cons (pv 0) pa_nil)) pa_nil)) (blkOk_by (N := ["rows", "pairs", "a", "b"]) (sc := defScope s_ahead_pairs) (by decide +kernel)) (fun _ _ _ _ _ => (pg_name (i := 3) sc_ahead_pairs.nd rfl (Or.inl rfl))) (fun _ _ _ _ _ => (pts_one (pt_val (pe_ix (ixL K) (pe_ix (ixL K) (pv 0) (pv 2) (fun _ _ => rfl)) (pv 3) (fun _ _ => rfl))))) (fun _ _ _ _ _ => (pe_tup (pa_cons (pv 2) (pa_cons (pv 3) pa_nil))))) pa_nil)))))
    (pss_one (ps_ret (pv 1))))), ?_⟩
    refine ⟨(by show 0 ≤ sizeLine; decide), fun l nl => ?_⟩
    have hR1 := hR.keep (keep_same (same_new (o := .lst []) nl))
    obtain ⟨xs, hx, hxl⟩ := hR1.len
    refine ⟨_, rfl, _, _, rfl, .inl (SqL.of hx), _, rfl, (by omega), (by omega), for_range (lo := 0) (n := xs.length) (fun i σ H1 => ∃ y2 ys, σ = [some (.ref p), some (.ref l), y2, none] ∧ Same H H1 ∧ H1 l = some (.lst ys) ∧ Each (PairV H1) ys ((List.range i).flatMap fun (a : Nat) => ((List.range n).filter (M a)).map fun (b : Nat) => ((a : Int), (b : Int))))
      ⟨none, [], rfl, same_new nl, upd_same, Each.nil⟩ ?_ ?_⟩
    · rintro i σ H1 hi ⟨y2, ys, rfl, sm, hl, he⟩
      have hR2 := hR.keep (keep_same sm)
      obtain ⟨rs, r, g1, g2, g3, hrl⟩ := hR2.getn (i := i) (by omega)
      refine ⟨_, rfl, .inl ⟨rfl, _, SqL.of hl⟩, _, rfl, _, _, rfl, .inl (SqL.of g1), _, rfl, (by omega), (by omega), fun D hD => lc_range (lo := 0) (n := (rs.map V.ref).length) (fun j H2 => ∃ zs, H2 D = some (.lst zs) ∧ Same H1 H2 ∧ Each (PairV H2) zs (((List.range j).filter (M i)).map fun (b : Nat) => ((i : Int), (b : Int)))) ⟨[], upd_same, same_new hD, Each.nil⟩ ?_ ?_⟩
      · rintro j H2 hj ⟨zs, hd, sm2, hz⟩
        have hjn : j < n := by omega
        refine ⟨rfl, ?_⟩
        refine ⟨_, rfl, _, rfl, _, _, _, _, rfl, rfl, SqL.of (sm2 _ _ g1), at_zero g2, _, rfl, _, _, _, _, rfl, rfl, SqL.of (sm2 _ _ g3), at_zero (rowV_get hjn), _, rfl, ite2 (fun c => ?_) (fun c => ?_)⟩
        · refine ⟨_, rfl, _, rfl, (by show 2 ≤ sizeLine; decide), fun t nt => ?_⟩
          have nDt : D ≠ t := ne_of_none hd nt
          refine ⟨zs, by rw [upd_ne nDt]; exact hd, size_lt ?_, zs ++ [.ref t], upd_same, same_mut (same_mut sm2 (sm2.free nt)) hD, ?_⟩
          · rw [hz.1, List.length_map]
            exact Nat.lt_of_le_of_lt (List.length_filter_le _ _) (by rw [List.length_range]; omega)
          · rw [List.range_succ, List.filter_append, List.map_append]
            have : List.filter (M i) [j] = [j] := by rw [List.filter_cons_of_pos c] <;> rfl
            rw [this]
            have k1 : Same H2 (upd H2 t (.tup [.int (0 + (i : Int)), .int (0 + (j : Int))])) := same_new nt
            have k2 : ∀ x q, PairV (upd H2 t (.tup [.int (0 + (i : Int)), .int (0 + (j : Int))])) x q → PairV (upd (upd H2 t (.tup [.int (0 + (i : Int)), .int (0 + (j : Int))])) D (.lst (zs ++ [.ref t]))) x q := fun x q ⟨u, hu1, hu2⟩ => ⟨u, hu1, by
              have : u ≠ D := fun z => by
                rw [z, upd_ne nDt, hd] at hu2
                cases hu2
              rw [upd_ne this]; exact hu2⟩
            refine Each.snoc ((each_keep (keep_same k1) hz).mono fun x q _ r => k2 x q r) (k2 _ _ ⟨t, rfl, ?_⟩)
            rw [upd_same, Int.zero_add, Int.zero_add]
        · refine ⟨zs, hd, sm2, ?_⟩
          rw [List.range_succ, List.filter_append]
          have : List.filter (M i) [j] = [] := by rw [List.filter_cons_of_neg c] <;> rfl
          rw [this, List.append_nil]
          exact hz
      · rintro H2 ⟨zs, hd, sm2, hz⟩
        rw [hrl] at hz
        refine ⟨_, _, _, _, rfl, rfl, sm2 _ _ hl, hd, ?_, ?_⟩
        · rw [he.1, hz.1, List.length_map]
          have k1 := aheadP_len (n := n) (M := M) i
          have k2 := List.length_filter_le (M i) (List.range n)
          rw [List.length_range] at k2
          have k3 : i * n ≤ 100 * 100 := Nat.mul_le_mul (by omega) hn
          exact size_le (by omega)
        · have nlD : l ≠ D := ne_of_none hl hD
          have k2 : ∀ x q, PairV H2 x q → PairV (upd H2 l (.lst (ys ++ zs))) x q := fun x q ⟨u, hu1, hu2⟩ => ⟨u, hu1, by
            have : u ≠ l := fun z => by
              rw [z, sm2 _ _ hl] at hu2
              cases hu2
            rw [upd_ne this]; exact hu2⟩
          refine ⟨_, _, rfl, same_mut (sm.trans sm2) nl, upd_same, ?_⟩
          rw [List.range_succ, List.flatMap_append, List.flatMap_singleton]
          exact Each.append ((each_keep (keep_same sm2) he).mono fun x q _ r => k2 x q r) (hz.mono fun x q _ r => k2 x q r)
    · rintro σ H1 ⟨y2, ys, rfl, sm, hl, he⟩
      rw [hxl] at he
      exact ⟨_, rfl, q l H1 sm nl ⟨ys, hl, he⟩⟩
abbrev s_free : Stmt := topS 34
theorem sc_free : FnScope ["rows", "done", "free", "deed", "a"] ["rows", "done"] (defScope s_free) := ⟨rfl, rfl, rfl, by decide +kernel, rfl, by decide +kernel, by decide +kernel⟩
theorem ok_free {f : Addr} {fd : FuncData} (F : Fun K "_law_free" "_law_free" s_free f fd) (T : Blt mg) : FnOk P w K mg base CX0 1 f fd ["rows", "done"] (sp_free K) := by
  refine F.ok sc_free (fun vs H Q E h => ?_) (fun cdv A outer s H vs Q E hr h => ?_)
  · obtain ⟨_, _, _, _, _, rfl, _⟩ := h
    rfl
  · obtain ⟨p, d, n, M, done, rfl, hR, hn, hd, q⟩ := h
    refine ⟨_, (pss_cons (ps_set (i := 2) sc_free.nd rfl (Or.inl rfl) (pe_lst pa_nil))
    (pss_cons (ps_for PassesOwn.never rfl (pi_range1 rfl T.range (pa_cons (pe_callB (lenK K) (by rfl) T.len PySem.boot_len (pa_cons (pv 0) pa_nil)) pa_nil)) (pg_name (i := 3) sc_free.nd rfl (Or.inr rfl))
      (pss_one (ps_if (PW.pt (pw_and (pt_cmpR (notInK K) (pv 3) (pv 1) (by rfl)) (pw_and1 (pt_val (pe_callB (allK K rfl) (by rfl) T.all (by decide +kernel) (pa_cons (pe_lc (own := [("a", 4)]) (g := gName 4) rfl sc_free.nd (pi_range1 rfl T.range (pa_cons (pe_callB (lenK K) (by rfl) T.len PySem.boot_len (pa_cons (pv 0) pa_nil)) pa_nil)) (blkOk_by (N := ["rows", "done", "free", "deed", "a"]) (sc := defScope s_free) (by decide +kernel)) (fun _ _ _ _ _ => (pg_name (i := 4) sc_free.nd rfl (Or.inl rfl))) (fun _ _ _ _ _ => (pts_one (pt_val (pe_ix (ixL K) (pe_ix (ixL K) (pv 0) (pv 4) (fun _ _ => rfl)) (pv 3) (fun _ _ => rfl))))) (fun _ _ _ _ _ => (pe_cmpR (inK K) (pv 4) (pv 1) (by rfl)))) pa_nil))))))
          (pss_one (ps_expr (pe_bm PySem.F.plainAttrs_list PySem.F.slot_list_append PySem.F.type_list_append mt_append (pv 2) (pa_cons (pv 3) pa_nil))))
          pss_nil)))
    (pss_one (ps_ret (pv 2))))), ?_⟩
    refine ⟨(by show 0 ≤ sizeLine; decide), fun l nl => ?_⟩
    have hR1 := hR.keep (keep_same (same_new (o := .lst []) nl))
    obtain ⟨xs, hx, hxl⟩ := hR1.len
    refine ⟨_, rfl, _, _, rfl, .inl (SqL.of hx), _, rfl, (by omega), (by omega), for_range (lo := 0) (n := xs.length) (fun i σ H1 => ∃ y3, σ = [some (.ref p), some (.ref d), some (.ref l), y3, none] ∧ Same H H1 ∧ NatsAt H1 l ((List.range i).filter (freeOf n M done)))
      ⟨none, rfl, same_new nl, upd_same⟩ ?_ ?_⟩
    · rintro i σ H1 hi ⟨y3, rfl, sm, hl⟩
      have hd1 : H1 d = some (.lst (natV done)) := sm _ _ hd
      have hR2 := hR.keep (keep_same sm)
      obtain ⟨ys, hy, hyl⟩ := hR2.len
      have skip : freeOf n M done i = false → NatsAt H1 l ((List.range (i + 1)).filter (freeOf n M done)) := fun e => by
        rw [List.range_succ, List.filter_append]
        have : List.filter (freeOf n M done) [i] = [] := by rw [List.filter_cons_of_neg (by rw [e]; decide)] <;> rfl
        rw [this, List.append_nil]
        exact hl
      refine ⟨_, rfl, _, rfl, _, _, rfl, .inl (SqL.of hd1), rfl, natV_flat done, _, rfl, ?_⟩
      rw [if_pos rfl, inV_nat (d := i) (by omega)]
      cases hc : done.contains i with
      | true =>
        exact ⟨_, rfl, sm, skip (by unfold freeOf; rw [hc]; rfl)⟩
      | false =>
        refine ⟨_, rfl, _, _, rfl, .inl (SqL.of hy), _, rfl, (by omega), (by omega), fun D hD => lc_range (lo := 0) (n := ys.length) (fun j H2 => ∃ bs : List Bool, H2 D = some (.lst (bs.map V.bl)) ∧ Same H1 H2 ∧ bs = ((List.range j).filter fun a => M a i).map fun a => done.contains a) ⟨[], upd_same, same_new hD, rfl⟩ ?_ ?_⟩
        · rintro j H2 hj ⟨bs, hb, sm2, rfl⟩
          have hjn : j < n := by omega
          obtain ⟨rs, r, g1, g2, g3⟩ := (hR2.keep (keep_same sm2)).get hjn
          refine ⟨rfl, ?_⟩
          refine ⟨_, rfl, _, rfl, _, _, _, _, rfl, rfl, SqL.of g1, at_zero g2, _, rfl, _, _, _, _, rfl, rfl, SqL.of g3, at_zero (rowV_get (show i < n by omega)), _, rfl, ite2 (fun c => ?_) (fun c => ?_)⟩
          · refine ⟨_, rfl, _, rfl, _, _, rfl, .inl (SqL.of (sm2 _ _ hd1)), rfl, natV_flat done, ?_⟩
            rw [if_neg Bool.false_ne_true, inV_nat (d := j) (by omega)]
            refine ⟨_, hb, size_lt ?_, ((List.range (j + 1)).filter fun a => M a i).map fun a => done.contains a, ?_, same_mut sm2 hD, rfl⟩
            · rw [List.length_map, List.length_map]
              exact Nat.lt_of_le_of_lt (List.length_filter_le _ _) (by rw [List.length_range]; omega)
            · rw [upd_same, List.range_succ, List.filter_append, List.map_append, List.map_append]
              have := filter_yes (p := fun a => M a i) c
              rw [this]
              rfl
          · refine ⟨_, hb, sm2, ?_⟩
            rw [List.range_succ, List.filter_append]
            have := filter_no (p := fun a => M a i) c
            rw [this, List.append_nil]
        · rintro H2 ⟨bs, hb, sm2, rfl⟩
          refine ⟨_, _, rfl, SqL.of hb, _, rfl, ?_⟩
          have e : (((List.range ys.length).filter fun a => M a i).map fun a => done.contains a).all id = ((List.range n).filter fun a => M a i).all fun a => done.contains a := by
            rw [List.all_map, hyl]
            rfl
          rw [e]
          have hl2 : H2 l = some (.lst (natV ((List.range i).filter (freeOf n M done)))) := sm2 _ _ hl
          refine ite2 (fun c => ?_) (fun c => ?_)
          · refine ⟨_, rfl, .inl ⟨rfl, _, SqL.of hl2⟩, _, rfl, _, _, _, rfl, rfl, hl2, ?_, ?_⟩
            · rw [natV_len]
              exact size_lt (Nat.lt_of_le_of_lt (List.length_filter_le _ _) (by rw [List.length_range]; omega))
            · refine ⟨_, rfl, same_mut (sm.trans sm2) nl, ?_⟩
              show upd H2 l _ l = _
              rw [upd_same, List.range_succ, List.filter_append]
              have : List.filter (freeOf n M done) [i] = [i] := by rw [List.filter_cons_of_pos (by unfold freeOf; rw [hc, c]; rfl)] <;> rfl
              rw [this, natV_append, Int.zero_add]
              rfl
          · exact ⟨_, rfl, sm.trans sm2, (sm2 _ _ (skip (by unfold freeOf; rw [hc, Bool.not_eq_true _ |>.mp c]; rfl)) : _)⟩
    · rintro σ H1 ⟨y3, rfl, sm, hl⟩
      rw [hxl] at hl
      exact ⟨_, rfl, q l H1 sm nl hl⟩
end
end Few
set_option maxHeartbeats 2000000
namespace Few
open PySem PySem.Spec PyProof.Rows L2
def sp_line (_ : PySem.W.Frag) : Sp := fun vs H Q _ => ∃ (s c p : Addr) (n : Nat) (M : Tb), vs = [.ref s, .ref p] ∧ StoreAt H s c ∧ RowsAt H p n M ∧ n ≤ 1000 ∧ Rises n M ∧
  ∀ (l : Addr) (ds : List Nat) (H' : Hp), Fr s H H' → StoreAt H' s c → H l = none → NatsAt H' l ds → LineOf n M ds → Q (.ref l) H'
def nextL (n : Nat) (M : Tb) (L : List (List Nat)) : List (List Nat) := L.flatMap fun d => (freeL n M d).map fun x => d ++ [x]
def linesL (n : Nat) (M : Tb) : Nat → List (List Nat)
  | 0 => [[]]
  | k + 1 => nextL n M (linesL n M k)
theorem freeL_len {n : Nat} {M : Tb} {d : List Nat} : (freeL n M d).length ≤ n := by
  unfold freeL
  exact Nat.le_trans (List.length_filter_le _ _) (by rw [List.length_range]; exact Nat.le_refl _)
theorem nextL_len {n : Nat} {M : Tb} : ∀ L : List (List Nat), (nextL n M L).length ≤ L.length * n
  | [] => by simp [nextL]
  | d :: L => by
    have ih := nextL_len (n := n) (M := M) L
    have k := freeL_len (n := n) (M := M) (d := d)
    unfold nextL at ih ⊢
    rw [List.flatMap_cons, List.length_append, List.length_map, List.length_cons, Nat.succ_mul]
    omega
theorem linesL_len {n : Nat} {M : Tb} (hn : n ≤ 5) : ∀ k, (linesL n M k).length ≤ 5 ^ k
  | 0 => by simp [linesL]
  | k + 1 => by
    have ih := linesL_len (M := M) hn k
    have k1 := nextL_len (n := n) (M := M) (linesL n M k)
    have k2 : (linesL n M k).length * n ≤ 5 ^ k * 5 := Nat.mul_le_mul ih hn
    show (nextL n M (linesL n M k)).length ≤ 5 ^ (k + 1)
    rw [Nat.pow_succ]
    omega
theorem linesL_mem {n : Nat} {M : Tb} : ∀ k d, d ∈ linesL n M k → d.length = k
  | 0, d, h => by
    have : d = [] := by simpa [linesL] using h
    rw [this]; rfl
  | k + 1, d, h => by
    have h : d ∈ nextL n M (linesL n M k) := h
    unfold nextL at h
    rw [List.mem_flatMap] at h
    obtain ⟨e, he, h⟩ := h
    rw [List.mem_map] at h
    obtain ⟨x, _, rfl⟩ := h
    rw [List.length_append, linesL_mem k e he]
    rfl
def NatsV (H : Hp) (x : V) (l : List Nat) : Prop := ∃ t, x = .ref t ∧ H t = some (.lst (natV l))
def LinesAt (H : Hp) (a : Addr) (L : List (List Nat)) : Prop := ∃ xs, H a = some (.lst xs) ∧ Each (NatsV H) xs L
def sp_lines (_ : PySem.W.Frag) : Sp := fun vs H Q _ => ∃ (p : Addr) (n : Nat) (M : Tb), vs = [.ref p] ∧ RowsAt H p n M ∧ n ≤ 5 ∧
  ∀ (l : Addr) (H' : Hp), Same H H' → LinesAt H' l (linesL n M n) → Q (.ref l) H'
theorem take_more {α : Type} {l : List α} {i : Nat} {x : α} (h : l[i]? = some x) : l.take (i + 1) = l.take i ++ [x] := by rw [List.take_add_one, h] <;> rfl
section
variable {P : Program} {w : World} {K : PySem.W.Frag} {mg : Str → Option Value} {base : Heap}
abbrev s_line : Stmt := topS 35
theorem sc_line : FnScope ["store", "rows", "sort", "done", "step", "free", "at"] ["store", "rows"] (defScope s_line) := ⟨rfl, rfl, rfl, by decide +kernel, rfl, by decide +kernel, by decide +kernel⟩
theorem ok_line {f : Addr} {fd : FuncData} {f_take : Addr} {fd_take : FuncData} {f_free : Addr} {fd_free : FuncData} (F : Fun K "_law_line" "_law_line" s_line f fd) (T : Blt mg) (C_take : Cal K mg "_law_take" f_take fd_take ["store", "many"]) (G_take : FnOk P w K mg base CX0 1 f_take fd_take ["store", "many"] (sp_take K)) (C_free : Cal K mg "_law_free" f_free fd_free ["rows", "done"]) (G_free : FnOk P w K mg base CX0 1 f_free fd_free ["rows", "done"] (sp_free K)) : FnOk P w K mg base CX0 2 f fd ["store", "rows"] (sp_line K) := by
  refine F.ok sc_line (fun vs H Q E h => ?_) (fun cdv A outer s H vs Q E hr h => ?_)
  · obtain ⟨_, _, _, _, _, rfl, _⟩ := h
    rfl
  · obtain ⟨st, c, p, n, M, rfl, hS, hR, hn, hri, q⟩ := h
    refine ⟨_, (pss_cons (ps_set (i := 2) sc_line.nd rfl (Or.inl rfl) (pe_call G_take (hr.mono (by decide)) (by rfl) C_take.g C_take.kp C_take.b .nil pass0 (pa_cons (pv 0) (pa_cons pe_int pa_nil))))
    (pss_cons (ps_set (i := 3) sc_line.nd rfl (Or.inl rfl) (pe_lst pa_nil))
    (pss_cons (ps_for PassesOwn.never rfl (pi_range1 rfl T.range (pa_cons (pe_callB (lenK K) (by rfl) T.len PySem.boot_len (pa_cons (pv 1) pa_nil)) pa_nil)) (pg_name (i := 4) sc_line.nd rfl (Or.inl rfl))
      (pss_cons (ps_set (i := 5) sc_line.nd rfl (Or.inl rfl) (pe_call G_free (hr.mono (by decide)) (by rfl) C_free.g C_free.kp C_free.b .nil pass0 (pa_cons (pv 1) (pa_cons (pv 3) pa_nil))))
        (pss_cons (ps_set (i := 6) sc_line.nd rfl (Or.inl rfl) pe_int)
        (C8.pss_cut (ps_if (pt_cmpR op_eq (pv 2) pe_int (nomark _))
          (pss_one (ps_set (i := 6) sc_line.nd rfl (Or.inl rfl) (pe_op op_sub (pe_callB (lenK K) (by rfl) T.len PySem.boot_len (pa_cons (pv 5) pa_nil)) pe_int)))
          pss_nil)
        (C8.pss_cut (ps_if (pt_cmpR op_gt (pv 2) pe_int (nomark _))
          (pss_one (ps_set (i := 6) sc_line.nd rfl (Or.inl rfl) (pe_call G_take (hr.mono (by decide)) (by rfl) C_take.g C_take.kp C_take.b .nil pass0 (pa_cons (pv 0) (pa_cons (pe_callB (lenK K) (by rfl) T.len PySem.boot_len (pa_cons (pv 5) pa_nil)) pa_nil)))))
          pss_nil)
        (pss_one (ps_expr (pe_bm PySem.F.plainAttrs_list PySem.F.slot_list_append PySem.F.type_list_append mt_append (pv 3) (pa_cons (pe_ix (ixL K) (pv 5) (pv 6) (fun _ _ => rfl)) pa_nil)))))))))
    (pss_one (ps_ret (pv 3)))))), ?_⟩
    refine ⟨_, rfl, st, c, _, rfl, hS, small9000 (by decide) (by decide), fun srt H1 _ _ fr1 st1 => ?_⟩
    refine ⟨(by show 0 ≤ sizeLine; decide), fun l nl => ?_⟩
    have hl0 : H l = none := by
      cases e : H l with
      | none => rfl
      | some o =>
        have := fr1 l o (ne_new st1 nl) e
        rw [nl] at this; cases this
    have hR1 := (hR.keep (keep_fr fr1 hS)).keep (keep_same (same_new (o := .lst []) nl))
    obtain ⟨xs, hx, hxl⟩ := hR1.len
    refine ⟨_, rfl, _, _, rfl, .inl (SqL.of hx), _, rfl, (by omega), (by omega), for_range (lo := 0) (n := xs.length) (fun i σ H2 => ∃ (ds : List Nat) (y4 y5 y6 : Option V), σ = [some (.ref st), some (.ref p), some (.int srt), some (.ref l), y4, y5, y6] ∧ ds.length = i ∧ LineTo n M ds ∧ NatsAt H2 l ds ∧ Fr st H H2 ∧ StoreAt H2 st c)
      ⟨[], none, none, none, rfl, rfl, lineTo_nil, upd_same, fr1.mut hl0, st1.new nl⟩ ?_ ?_⟩
    · rintro i σ H2 hi ⟨ds, y4, y5, y6, rfl, hdl, hL, hl, fr2, st2⟩
      have hR2 := hR.keep (keep_fr fr2 hS)
      refine ⟨_, rfl, _, rfl, p, l, n, M, ds, rfl, hR2, hn, hl, fun fl H3 sm3 nfl hfl => ?_⟩
      have hne := free_some (done := ds) hri (by omega)
      have hpos : 0 < (freeL n M ds).length := List.length_pos_iff.mpr hne
      have hle : (freeL n M ds).length ≤ n := freeL_len
      refine ⟨fun σ' H' => ∃ z : Nat, σ' = [some (.ref st), some (.ref p), some (.int srt), some (.ref l), some (.int (0 + (i : Int))), some (.ref fl), some (.int z)] ∧ z < (freeL n M ds).length ∧ H' = H3, ?_, ?_⟩
      · refine ⟨_, rfl, rfl, _, rfl, ite2 (fun c2 => ?_) (fun c2 => ?_)⟩
        · refine ⟨_, rfl, _, _, rfl, .inl (SqL.of hfl), _, _, rfl, rfl, (freeL n M ds).length - 1, ?_, by omega, rfl⟩
          rw [natV_len]
          have e : (((freeL n M ds).length : Int) - 1) = (((freeL n M ds).length - 1 : Nat) : Int) := by omega
          rw [← e]
          rfl
        · exact ⟨0, rfl, hpos, rfl⟩
      · rintro σ' H' ⟨z, rfl, hz, rfl⟩
        refine ⟨fun σ' H' => ∃ z : Nat, σ' = [some (.ref st), some (.ref p), some (.int srt), some (.ref l), some (.int (0 + (i : Int))), some (.ref fl), some (.int z)] ∧ z < (freeL n M ds).length ∧ NatsAt H' fl (freeL n M ds) ∧ NatsAt H' l ds ∧ Fr st H H' ∧ StoreAt H' st c, ?_, ?_⟩
        · refine ⟨_, rfl, _, _, rfl, rfl, _, rfl, ite2 (fun c2 => ?_) (fun c2 => ?_)⟩
          · refine ⟨_, rfl, _, rfl, _, _, rfl, .inl (SqL.of hfl), st, c, _, rfl, st2.same sm3, small9000 (by omega) (by rw [natV_len]; omega), fun r H4 r0 r1 fr4 st4 => ?_⟩
            rw [natV_len] at r1
            obtain ⟨z', rfl⟩ := Int.eq_ofNat_of_zero_le r0
            exact ⟨z', rfl, by omega, fr4 _ _ (ne_st (st2.same sm3) hfl notSt_nats) hfl, fr4 _ _ (ne_new hS hl0) (sm3 _ _ hl), (fr2.trans (Fr.of sm3)).trans fr4, st4⟩
          · exact ⟨z, rfl, hz, hfl, sm3 _ _ hl, fr2.trans (Fr.of sm3), st2.same sm3⟩
        · rintro σ' H' ⟨z, rfl, hz, hfl, hl, fr4, st4⟩
          have e := List.getElem?_eq_getElem hz
          refine ⟨_, rfl, .inl ⟨rfl, _, SqL.of hl⟩, _, rfl, _, rfl, _, _, _, _, rfl, rfl, SqL.of hfl, atI_nat (natV_get e), _, _, _, rfl, rfl, hl, ?_, ?_⟩
          · rw [natV_len]; exact size_lt (by omega)
          · refine ⟨ds ++ [(freeL n M ds)[z]], _, _, _, rfl, by rw [List.length_append, hdl] <;> rfl, hL.snoc (List.getElem_mem hz), ?_, fr4.mut hl0, hS.mut hl0 st4⟩
            show upd H' l _ l = _
            rw [upd_same, natV_append]
            rfl
    · rintro σ H2 ⟨ds, y4, y5, y6, rfl, hdl, hL, hl, fr2, st2⟩
      exact ⟨_, rfl, q l ds H2 fr2 st2 hl0 hl (hL.full (by omega))⟩
abbrev s_lines : Stmt := topS 36
theorem sc_lines : FnScope ["rows", "lines", "step", "longer", "done", "deed"] ["rows"] (defScope s_lines) := ⟨rfl, rfl, rfl, by decide +kernel, rfl, by decide +kernel, by decide +kernel⟩
theorem ok_lines {f : Addr} {fd : FuncData} {f_free : Addr} {fd_free : FuncData} (F : Fun K "_law_lines" "_law_lines" s_lines f fd) (T : Blt mg) (C_free : Cal K mg "_law_free" f_free fd_free ["rows", "done"]) (G_free : FnOk P w K mg base CX0 1 f_free fd_free ["rows", "done"] (sp_free K)) : FnOk P w K mg base CX0 2 f fd ["rows"] (sp_lines K) := by
  refine F.ok sc_lines (fun vs H Q E h => ?_) (fun cdv A outer s H vs Q E hr h => ?_)
  · obtain ⟨_, _, _, rfl, _⟩ := h
    rfl
  · obtain ⟨p, n, M, rfl, hR, hn, q⟩ := h
    refine ⟨_, (pss_cons (ps_set (i := 1) sc_lines.nd rfl (Or.inl rfl) (pe_lst (pa_cons (pe_lst pa_nil) pa_nil)))
    (pss_cons (ps_for PassesOwn.never rfl (pi_range1 rfl T.range (pa_cons (pe_callB (lenK K) (by rfl) T.len PySem.boot_len (pa_cons (pv 0) pa_nil)) pa_nil)) (pg_name (i := 2) sc_lines.nd rfl (Or.inl rfl))
      (pss_cons (ps_set (i := 3) sc_lines.nd rfl (Or.inl rfl) (pe_lst pa_nil))
        (pss_cons (ps_for PassesOwn.never rfl (pi_list (pv 1)) (pg_name (i := 4) sc_lines.nd rfl (Or.inr rfl))
          (pss_one (ps_expr (pe_bm PySem.F.plainAttrs_list PySem.F.slot_list_extend PySem.F.type_list_extend mt_extend (pv 3) (pa_cons (pe_lc (own := [("deed", 5)]) (g := gName 5) (tt := tYes) rfl sc_lines.nd (pi_list (pe_call G_free (hr.mono (by decide)) (by rfl) C_free.g C_free.kp C_free.b .nil pass0 (pa_cons (pv 0) (pa_cons (pv 4) pa_nil)))) (blkOk_by (N := ["rows", "lines", "step", "longer", "done", "deed"]) (sc := defScope s_lines) (by decide +kernel)) (fun _ _ _ _ _ => (pg_name (i := 5) sc_lines.nd rfl (Or.inl rfl))) (fun _ _ _ _ _ => pts_nil) (fun _ _ _ _ _ => (pe_op op_cat (pv 4) (pe_lst (pa_cons (pv 5) pa_nil))))) pa_nil)))))
        (pss_one (ps_set (i := 1) sc_lines.nd rfl (Or.inl rfl) (pe_callTy (listK K) (by rfl) T.list (by decide +kernel) (pa_cons (pv 3) pa_nil)))))))
    (pss_one (ps_ret (pv 1))))), ?_⟩
    refine ⟨(by show 0 ≤ sizeLine; decide), fun e0 ne0 => ?_⟩
    refine ⟨(by show 1 ≤ sizeLine; decide), fun a0 na0 => ?_⟩
    have s0 : Same H (upd (upd H e0 (.lst [])) a0 (.lst [.ref e0])) := (same_new ne0).trans (same_new na0)
    have n0 : e0 ≠ a0 := ne_of_none upd_same na0
    obtain ⟨xs0, hx0, hxl0⟩ := (hR.keep (keep_same s0)).len
    refine ⟨_, rfl, _, _, rfl, .inl (SqL.of hx0), _, rfl, (by omega), (by omega), for_range (lo := 0) (n := xs0.length) (fun i σ H1 => ∃ (a : Addr) (xs : List V) (y2 y3 y4 : Option V), σ = [some (.ref p), some (.ref a), y2, y3, y4, none] ∧ Same H H1 ∧ H1 a = some (.lst xs) ∧ Each (NatsV H1) xs (linesL n M i))
      ⟨a0, [.ref e0], none, none, none, rfl, s0, upd_same, Each.cons ⟨e0, rfl, by rw [upd_ne n0, upd_same] <;> rfl⟩ Each.nil⟩ ?_ ?_⟩
    · rintro i σ H1 hi ⟨a, xs, y2, y3, y4, rfl, sm, ha, he⟩
      have hxs : xs.length ≤ 5 ^ 5 := by
        rw [he.1]
        exact Nat.le_trans (linesL_len hn i) (Nat.pow_le_pow_right (by decide) (by omega))
      refine ⟨(by show 0 ≤ sizeLine; decide), fun g ng => ?_⟩
      -- for done in lines
      refine ⟨_, rfl, _, rfl, ⟨_, SqL.of (by rw [upd_ne (ne_of_none ha ng)]; exact ha)⟩, for_list (xs := xs) (fun j σ H2 => ∃ (ys : List V) (y4 : Option V), σ = [some (.ref p), some (.ref a), some (.int (0 + (i : Int))), some (.ref g), y4, none] ∧ Same H1 H2 ∧ H2 g = some (.lst ys) ∧ Each (fun x l => ∃ t, x = V.ref t ∧ t ≠ g ∧ H2 t = some (.lst (natV l))) ys (nextL n M ((linesL n M i).take j)))
        ⟨[], _, rfl, same_new ng, upd_same, Each.nil⟩ (fun j σ H2 _ h => ?_) ?_ ?_⟩
      · obtain ⟨_, _, _, h, _⟩ := h
        exact SqL.of (h _ _ ha)
      · rintro j x σ H2 hx ⟨ys, y4, rfl, sm2, hg, hy⟩
        obtain ⟨d, hd1, t, rfl, ht⟩ := he.2 j x hx
        have hj : j < xs.length := (List.getElem?_eq_some_iff.mp hx).1
        have hR2 := hR.keep (keep_same (sm.trans sm2))
        refine ⟨_, rfl, .inl ⟨rfl, _, SqL.of hg⟩, _, rfl, _, rfl, p, t, n, M, d, rfl, hR2, by omega, sm2 _ _ ht, fun fl H3 sm3 nfl hfl => ?_⟩
        refine ⟨_, rfl, ⟨_, SqL.of hfl⟩, fun D hD => lc_list (xs := natV (freeL n M d)) (fun k H4 => ∃ zs, H4 D = some (.lst zs) ∧ Same H3 H4 ∧ Each (fun x l => ∃ t, x = V.ref t ∧ t ≠ g ∧ t ≠ D ∧ H4 t = some (.lst (natV l))) zs (((freeL n M d).take k).map fun x => d ++ [x])) ⟨[], upd_same, same_new hD, Each.nil⟩ (fun k H4 _ h => ?_) ?_ ?_⟩
        · obtain ⟨_, _, h, _⟩ := h
          exact SqL.of (h _ _ hfl)
        · rintro k v H4 hv ⟨zs, hz, sm4, hzs⟩
          obtain ⟨x, hx1, rfl⟩ := natV_of hv
          have hkl : k < (freeL n M d).length := (List.getElem?_eq_some_iff.mp hx1).1
          have hle : (freeL n M d).length ≤ n := freeL_len
          have hdl : d.length = i := linesL_mem i d (List.mem_of_getElem? hd1)
          refine ⟨rfl, _, rfl, _, rfl, (by show 1 ≤ sizeLine; decide), fun p1 np1 => ?_⟩
          have ht4 : H4 t = some (.lst (natV d)) := sm4 _ _ (sm3 _ _ (sm2 _ _ ht))
          have n1 : t ≠ p1 := ne_of_none ht4 np1
          refine ⟨_, _, _, _, rfl, rfl, by rw [upd_ne n1]; exact ht4, upd_same, ?_, fun p2 np2 => ?_⟩
          · rw [natV_len]; exact size_le (by show d.length + 1 ≤ _; omega)
          have n21 : p2 ≠ p1 := (ne_of_none upd_same np2).symm
          rw [upd_ne n21] at np2
          have nD1 : D ≠ p1 := ne_of_none hz np1
          have nD2 : D ≠ p2 := ne_of_none hz np2
          have hg4 : H4 g = some (.lst ys) := sm4 _ _ (sm3 _ _ hg)
          refine ⟨zs, by rw [upd_ne nD2, upd_ne nD1]; exact hz, size_lt (by rw [hzs.1, List.length_map, List.length_take]; omega), zs ++ [.ref p2], upd_same, same_mut (same_mut (same_mut sm4 (sm4.free np1)) (sm4.free np2)) hD, ?_⟩
          rw [take_more hx1, List.map_append]
          refine Each.snoc (hzs.mono fun x l _ ⟨u, hu1, hu2, hu3, hu4⟩ => ⟨u, hu1, hu2, hu3, by rw [upd_ne hu3, upd_ne (ne_of_none hu4 np2), upd_ne (ne_of_none hu4 np1)]; exact hu4⟩) ⟨p2, rfl, (ne_of_none hg4 np2).symm, nD2.symm, ?_⟩
          rw [upd_ne nD2.symm, upd_same, natV_append]
          rfl
        · rintro H4 ⟨zs, hz, sm4, hzs⟩
          rw [natV_len, List.take_length] at hzs
          have hg4 : H4 g = some (.lst ys) := sm4 _ _ (sm3 _ _ hg)
          refine ⟨_, _, _, _, rfl, rfl, hg4, hz, ?_, ?_⟩
          · rw [hy.1, hzs.1, List.length_map]
            have k1 := nextL_len (n := n) (M := M) ((linesL n M i).take j)
            have k2 : (freeL n M d).length ≤ n := freeL_len
            have k3 : ((linesL n M i).take j).length * n ≤ 5 ^ 5 * 5 := Nat.mul_le_mul (by rw [List.length_take]; have := he.1; omega) hn
            exact size_le (by omega)
          · refine ⟨_, _, rfl, same_mut (sm2.trans (sm3.trans sm4)) ng, upd_same, ?_⟩
            have e : nextL n M ((linesL n M i).take (j + 1)) = nextL n M ((linesL n M i).take j) ++ (freeL n M d).map fun x => d ++ [x] := by
              rw [take_more hd1]
              unfold nextL
              rw [List.flatMap_append, List.flatMap_singleton]
            rw [e]
            exact Each.append (hy.mono fun x l _ ⟨u, h1, h2, h3⟩ => ⟨u, h1, h2, by rw [upd_ne h2]; exact sm4 _ _ (sm3 _ _ h3)⟩) (hzs.mono fun x l _ ⟨u, h1, h2, _, h3⟩ => ⟨u, h1, h2, by rw [upd_ne h2]; exact h3⟩)
      · rintro σ H2 ⟨ys, y4, rfl, sm2, hg, hy⟩
        have e : (linesL n M i).take xs.length = linesL n M i := by rw [he.1, List.take_length]
        rw [e] at hy
        refine ⟨_, rfl, _, _, rfl, .inl (SqL.of hg), fun a' na' => ?_⟩
        exact ⟨a', ys, _, _, _, rfl, (sm.trans sm2).trans (same_new na'), upd_same, hy.mono fun x l _ ⟨u, h1, _, h3⟩ => ⟨u, h1, same_new na' _ _ h3⟩⟩
    · rintro σ H1 ⟨a, xs, y2, y3, y4, rfl, sm, ha, he⟩
      rw [hxl0] at he
      exact ⟨_, rfl, q a H1 sm ⟨xs, ha, he⟩⟩
end
end Few
set_option maxHeartbeats 2000000
namespace Few
open PySem PySem.Spec PyProof.Rows L2
def InR (n : Nat) (ps : List (Int × Int)) : Prop := ∀ p ∈ ps, (0 ≤ p.1 ∧ p.1 < n) ∧ 0 ≤ p.2 ∧ p.2 < n
def sp_closure (_ : PySem.W.Frag) : Sp := fun vs H Q _ => ∃ (n : Nat) (l : Addr) (ps : List (Int × Int)), vs = [.int n, .ref l] ∧ n ≤ 1000 ∧ PairsAt H l ps ∧ InR n ps ∧
  ∀ (p : Addr) (H' : Hp), Same H H' → RowsAt H' p n (clos n ps) → Q (.ref p) H'
section
variable {P : Program} {w : World} {K : PySem.W.Frag} {mg : Str → Option Value} {base : Heap}
abbrev s_closure : Stmt := topS 30
theorem sc_closure : FnScope ["size", "pairs", "rows", "a", "b", "row", "mid", "at"] ["size", "pairs"] (defScope s_closure) := ⟨rfl, rfl, rfl, by decide +kernel, rfl, by decide +kernel, by decide +kernel⟩
theorem ok_closure {f : Addr} {fd : FuncData} (F : Fun K "_law_closure" "_law_closure" s_closure f fd) (T : Blt mg) : FnOk P w K mg base CX0 1 f fd ["size", "pairs"] (sp_closure K) := by
  refine F.ok sc_closure (fun vs H Q E h => ?_) (fun cdv A outer s H vs Q E hr h => ?_)
  · obtain ⟨_, _, _, rfl, _⟩ := h
    rfl
  · obtain ⟨n, l, ps, rfl, hn, hl, hin, q⟩ := h
    refine ⟨_, (pss_cons (ps_setLc (i := 2) (own := [("at", 7)]) (g := gName 7) (tt := tYes) rfl sc_closure.nd rfl rfl (sw_true rfl rfl rfl (by decide +kernel)) (pi_range1 rfl T.range (pa_cons (pv 0) pa_nil)) (blkOk_by (N := ["size", "pairs", "rows", "a", "b", "row", "mid", "at"]) (sc := defScope s_closure) (by decide +kernel)) (fun _ _ _ _ _ => (pg_name (i := 7) sc_closure.nd rfl (Or.inl rfl))) (fun _ _ _ _ _ => pts_nil) (fun _ _ _ _ _ => (pe_op op_rep (pe_lst (pa_cons pe_bl pa_nil)) (pv 0))))
    (pss_cons (ps_for PassesOwn.never rfl (pi_list (pv 1)) (pg_tup rfl (pgs_cons (pg_name (i := 3) sc_closure.nd rfl (Or.inl rfl)) (pgs_cons (pg_name (i := 4) sc_closure.nd rfl (Or.inl rfl)) pgs_nil)))
      (pss_cons (ps_set (i := 5) sc_closure.nd rfl (Or.inl rfl) (pe_ix ix_list (pv 2) (pv 3) (fun _ _ => rfl)))
        (pss_one (ps_asg pe_bl (pg_sub (pv 5) (pv 4) set_list)))))
    (pss_cons (ps_for PassesOwn.never rfl (pi_range1 rfl T.range (pa_cons (pv 0) pa_nil)) (pg_name (i := 6) sc_closure.nd rfl (Or.inl rfl))
      (pss_one (ps_for PassesOwn.never rfl (pi_range1 rfl T.range (pa_cons (pv 0) pa_nil)) (pg_name (i := 3) sc_closure.nd rfl (Or.inl rfl))
          (pss_one (ps_if (pt_val (pe_ix ix_list (pe_ix ix_list (pv 2) (pv 3) (fun _ _ => rfl)) (pv 6) (fun _ _ => rfl)))
              (pss_cons (ps_set (i := 5) sc_closure.nd rfl (Or.inl rfl) (pe_ix ix_list (pv 2) (pv 3) (fun _ _ => rfl)))
                (pss_one (ps_for PassesOwn.never rfl (pi_range1 rfl T.range (pa_cons (pv 0) pa_nil)) (pg_name (i := 4) sc_closure.nd rfl (Or.inl rfl))
                  (pss_one (ps_if (pt_val (pe_ix ix_list (pe_ix ix_list (pv 2) (pv 6) (fun _ _ => rfl)) (pv 4) (fun _ _ => rfl)))
                      (pss_one (ps_asg pe_bl (pg_sub (pv 5) (pv 4) set_list)))
                      pss_nil)))))
              pss_nil)))))
    (pss_one (ps_ret (pv 2)))))), ?_⟩
    -- rows = [[False] * size for at in range(size)]
    refine ⟨_, rfl, _, rfl, (by omega), (by omega), fun D hD => lc_range (lo := 0) (n := n) (fun i H1 => ∃ rs : List Addr, H1 D = some (.lst (rs.map V.ref)) ∧ rs.length = i ∧ rs.Nodup ∧ (∀ r ∈ rs, H1 r = some (.lst (rowV n fun _ => false)) ∧ H r = none ∧ r ≠ D) ∧ Same H H1) ?_ ?_ ?_⟩
    · exact ⟨[], upd_same, rfl, List.nodup_nil, fun r hr => by simp at hr, same_new hD⟩
    · rintro i H1 hi ⟨rs, hd, hrl, hnd, hrs, sm⟩
      refine ⟨rfl, (by show 1 ≤ sizeLine; decide), fun p1 np1 => ?_⟩
      refine ⟨_, rfl, _, _, _, rfl, rfl, upd_same, (by omega), (by omega), (by show 1 * (n : Int).toNat ≤ sizeLine; exact size_le (by omega)), fun p2 np2 => ?_⟩
      have n21 : p2 ≠ p1 := (ne_of_none upd_same np2).symm
      rw [upd_ne n21] at np2
      have nD1 : D ≠ p1 := ne_of_none hd np1
      have nD2 : D ≠ p2 := ne_of_none hd np2
      refine ⟨_, by rw [upd_ne nD2, upd_ne nD1]; exact hd, by rw [List.length_map]; exact size_lt (by omega), rs ++ [p2], by rw [upd_same, List.map_append] <;> rfl, by rw [List.length_append, hrl] <;> rfl, ?_, ?_, ?_⟩
      · rw [List.nodup_append]
        refine ⟨hnd, by simp, fun a ha b hb => ?_⟩
        rw [List.mem_singleton] at hb
        rw [hb]
        exact ne_of_none (hrs a ha).1 np2
      · intro r hr'
        rcases List.mem_append.mp hr' with h1 | h1
        · have k1 := hrs r h1
          exact ⟨by rw [upd_ne k1.2.2, upd_ne (ne_of_none k1.1 np2), upd_ne (ne_of_none k1.1 np1)]; exact k1.1, k1.2.1, k1.2.2⟩
        · rw [List.mem_singleton] at h1
          rw [h1]
          refine ⟨?_, sm.free np2, nD2.symm⟩
          rw [upd_ne nD2.symm, upd_same]
          have : (List.replicate (n : Int).toNat [V.bl false]).flatten = rowV n fun _ => false := by
            rw [Int.toNat_natCast]
            unfold rowV
            rw [List.map_const', List.length_range]
            clear hn q hin hi hrs np1 np2 hd
            induction n with
            | zero => rfl
            | succ m ih => rw [List.replicate_succ, List.flatten_cons, ih, List.replicate_succ] <;> rfl
          rw [this]
      · exact same_mut (same_mut (same_mut sm (sm.free np1)) (sm.free np2)) hD
    · rintro H1 ⟨rs, hd, hrl, hnd, hrs, sm⟩
      have T1 : TabAt H H1 D rs n (initM []) := ⟨hd, hrl, hnd, fun i r e => by rw [initM_nil]; exact (hrs r (List.mem_of_getElem? e)).1, fun r hr => (hrs r hr).2.2, fun r hr => (hrs r hr).2.1, sm, hD⟩
      obtain ⟨xs, hx1, hx2⟩ := hl
      -- for a, b in pairs
      refine ⟨_, rfl, _, rfl, ⟨_, SqL.of (sm _ _ hx1)⟩, for_list (xs := xs) (fun i σ H2 => ∃ y3 y4 y5 : Option V, σ = [some (.int n), some (.ref l), some (.ref D), y3, y4, y5, none, none] ∧ TabAt H H2 D rs n (initM (ps.take i)))
        ⟨none, none, none, rfl, T1⟩ (fun i σ H2 _ h => ?_) ?_ ?_⟩
      · obtain ⟨_, _, _, _, h⟩ := h
        exact SqL.of (h.same _ _ hx1)
      · rintro i x σ H2 hx ⟨y3, y4, y5, rfl, T2⟩
        obtain ⟨⟨a', b'⟩, hp, t, rfl, ht⟩ := hx2.2 i x hx
        have hi := hin _ (List.mem_of_getElem? hp)
        obtain ⟨a, rfl⟩ := Int.eq_ofNat_of_zero_le hi.1.1
        obtain ⟨b, rfl⟩ := Int.eq_ofNat_of_zero_le hi.2.1
        have ha : a < n := by have := hi.1.2; simp at this; omega
        have hb : b < n := by have := hi.2.2; simp at this; omega
        refine ⟨t, _, rfl, SqT.of (T2.same _ _ ht), rfl, _, _, rfl, _, _, rfl, rfl, ?_⟩
        obtain ⟨r, hr1, hr2, hr3⟩ := T2.get ha
        refine ⟨_, rfl, _, rfl, _, _, _, _, rfl, rfl, SqL.of T2.at_, atI_nat hr2, ?_⟩
        refine ⟨_, rfl, _, rfl, _, _, _, b, rfl, rfl, hr3, (by rw [rowV_len]; exact ixN_of hb), ?_⟩
        refine ⟨_, _, _, rfl, ?_⟩
        rw [initM_more hp]
        exact T2.set hr1 hb
      · rintro σ H2 ⟨y3, y4, y5, rfl, T2⟩
        have T2 : TabAt H H2 D rs n (initM ps) := by
          have e : xs.length = ps.length := hx2.1
          rw [e, List.take_length] at T2
          exact T2
        -- for mid in range(size)
        refine ⟨_, rfl, _, rfl, (by omega), (by omega), for_range (lo := 0) (n := n) (fun m σ H2 => ∃ y3 y4 y5 y6 : Option V, σ = [some (.int n), some (.ref l), some (.ref D), y3, y4, y5, y6, none] ∧ TabAt H H2 D rs n (upto (initM ps) m))
          ⟨_, _, _, _, rfl, T2⟩ ?_ ?_⟩
        · rintro m σ H3 hm ⟨z3, z4, z5, z6, rfl, T3⟩
          -- for a in range(size)
          refine ⟨_, rfl, _, rfl, (by omega), (by omega), for_range (lo := 0) (n := n) (fun i σ H2 => ∃ y3 y4 y5 : Option V, σ = [some (.int n), some (.ref l), some (.ref D), y3, y4, y5, some (.int (0 + (m : Int))), none] ∧ TabAt H H2 D rs n (mixA (upto (initM ps) m) m i))
            ⟨_, _, _, rfl, by rw [mixA_zero]; exact T3⟩ ?_ ?_⟩
          · rintro i σ H4 hi ⟨u3, u4, u5, rfl, T4⟩
            obtain ⟨r, hr1, hr2, hr3⟩ := T4.get hi
            refine ⟨_, rfl, _, rfl, _, _, _, _, rfl, rfl, SqL.of T4.at_, at_zero hr2, _, rfl, _, _, _, _, rfl, rfl, SqL.of hr3, at_zero (rowV_get hm), _, rfl, ite2 (fun c => ?_) (fun c => ?_)⟩
            · rw [mixA_at] at c
              -- row = rows[a]; for b in range(size)
              refine ⟨_, rfl, _, rfl, _, _, _, _, rfl, rfl, SqL.of T4.at_, at_zero hr2, ?_⟩
              refine ⟨_, rfl, _, rfl, (by omega), (by omega), for_range (lo := 0) (n := n) (fun j σ H2 => ∃ y4 : Option V, σ = [some (.int n), some (.ref l), some (.ref D), some (.int (0 + (i : Int))), y4, some (.ref r), some (.int (0 + (m : Int))), none] ∧ TabAt H H2 D rs n (mixB (upto (initM ps) m) m i j))
                ⟨_, rfl, by rw [mixB_zero]; exact T4⟩ ?_ ?_⟩
              · rintro j σ H5 hj ⟨v4, rfl, T5⟩
                obtain ⟨rm, hm1, hm2, hm3⟩ := T5.get hm
                refine ⟨_, rfl, _, rfl, _, _, _, _, rfl, rfl, SqL.of T5.at_, at_zero hm2, _, rfl, _, _, _, _, rfl, rfl, SqL.of hm3, at_zero (rowV_get hj), _, rfl, ite2 (fun c2 => ?_) (fun c2 => ?_)⟩
                · rw [mixB_mid] at c2
                  refine ⟨_, rfl, _, rfl, _, _, _, j, rfl, rfl, T5.row i r hr1, (by rw [rowV_len]; exact ixN_zero hj), ?_⟩
                  refine ⟨_, rfl, ?_⟩
                  rw [← mixB_yes c c2]
                  exact T5.set hr1 hj
                · rw [mixB_mid, Bool.not_eq_true] at c2
                  exact ⟨_, rfl, by rw [← mixB_no c2]; exact T5⟩
              · rintro σ H5 ⟨v4, rfl, T5⟩
                exact ⟨_, _, _, rfl, T5.congr fun x y _ hy => mixB_done _ _ _ _ _ _ hy⟩
            · rw [mixA_at, Bool.not_eq_true] at c
              exact ⟨_, _, _, rfl, by rw [mixA_skip c]; exact T4⟩
          · rintro σ H4 ⟨u3, u4, u5, rfl, T4⟩
            exact ⟨_, _, _, _, rfl, by rw [upto_succ]; exact T4.congr fun x y hx _ => mixA_done _ _ _ _ _ hx⟩
        · rintro σ H3 ⟨z3, z4, z5, z6, rfl, T3⟩
          exact ⟨_, rfl, q D H3 T3.same T3.rows⟩
end
end Few
set_option maxHeartbeats 2000000
namespace Few
open PySem PySem.Spec PyProof.Rows L2
theorem Each.perm {α : Type} {R : V → α → Prop} {xs ys : List V} (p : ys.Perm xs) : ∀ {ps : List α}, Each R xs ps → ∃ qs, Each R ys qs ∧ qs.Perm ps := by
  induction p with
  | nil => intro ps h; exact ⟨ps, h, List.Perm.refl _⟩
  | cons x _ ih =>
    intro ps h
    obtain ⟨y, r, rfl, h1, h2⟩ := h.uncons
    obtain ⟨qs, k1, k2⟩ := ih h2
    exact ⟨y :: qs, Each.cons h1 k1, k2.cons _⟩
  | swap x y l =>
    intro ps h
    obtain ⟨p1, r, rfl, h1, h2⟩ := h.uncons
    obtain ⟨p2, r2, rfl, h3, h4⟩ := h2.uncons
    exact ⟨p2 :: p1 :: r2, Each.cons h3 (Each.cons h1 h4), List.Perm.swap _ _ _⟩
  | trans _ _ ih1 ih2 =>
    intro ps h
    obtain ⟨qs, k1, k2⟩ := ih2 h
    obtain ⟨rs, k3, k4⟩ := ih1 k1
    exact ⟨rs, k3, k4.trans k2⟩
theorem InR.perm {n : Nat} {ps qs : List (Int × Int)} (h : InR n ps) (p : qs.Perm ps) : InR n qs := fun x hx => h x (p.mem_iff.mp hx)
theorem InR.append {n : Nat} {ps qs : List (Int × Int)} (h : InR n ps) (k : InR n qs) : InR n (ps ++ qs) := fun x hx => (List.mem_append.mp hx).elim (h x) (k x)
theorem PairV.upd {H : Hp} {l : Addr} {xs ys : List V} {x : V} {p : Int × Int} (hl : H l = some (.lst xs)) (h : PairV H x p) : PairV (upd H l (.lst ys)) x p := by
  obtain ⟨t, e, ht⟩ := h
  refine ⟨t, e, ?_⟩
  rw [upd_ne (fun z => by rw [z, hl] at ht; cases ht)]
  exact ht
theorem each_upd {H : Hp} {l : Addr} {xs ys zs : List V} {ps : List (Int × Int)} (hl : H l = some (.lst xs)) (h : Each (PairV H) zs ps) : Each (PairV (upd H l (.lst ys))) zs ps := h.mono fun _ _ _ r => r.upd hl
def sp_joined (_ : PySem.W.Frag) : Sp := fun vs H Q _ => ∃ (p : Addr) (n : Nat) (M : Tb) (x y : V) (a b : Int × Int), vs = [.ref p, x, y] ∧ RowsAt H p n M ∧ PairV H x a ∧ PairV H y b ∧ InR n [a, b] ∧ ∀ k : Bool, Q (.bl k) H
def sp_line_pairs (_ : PySem.W.Frag) : Sp := fun vs H Q _ => ∃ (p l : Addr) (n : Nat) (M : Tb) (ds : List Nat), vs = [.ref p, .ref l] ∧ RowsAt H p n M ∧ NatsAt H l ds ∧ (∀ d ∈ ds, d < n) ∧ ds.length ≤ 100 ∧
  ∀ (r : Addr) (ps : List (Int × Int)) (H' : Hp), Same H H' → H r = none → PairsAt H' r ps → InR n ps → ps.length ≤ 10000 → Q (.ref r) H'
def badOf (n : Nat) (p : Int × Int) : Option Int := if ¬ (0 ≤ p.1 ∧ p.1 < n) then some p.1 else if ¬ (0 ≤ p.2 ∧ p.2 < n) then some p.2 else none
def faultP (n : Nat) (ps : List (Int × Int)) : Option Int := ps.findSome? (badOf n)
def sp_pairs_fault (_ : PySem.W.Frag) : Sp := fun vs H Q _ => ∃ (n : Nat) (l : Addr) (ps : List (Int × Int)), vs = [.int n, .ref l] ∧ PairsAt H l ps ∧ (faultP n ps = none → Q .non H) ∧
  ∀ (i : Int) (t : Addr), faultP n ps = some i → H t = none → Q (.ref t) (upd H t (.tup [.str "BadDeed", .int i]))
theorem fault_take {n : Nat} {ps : List (Int × Int)} {i : Nat} {p : Int × Int} {z : Int} (h : ps[i]? = some p) (h0 : ∀ q ∈ ps.take i, badOf n q = none) (hb : badOf n p = some z) : faultP n ps = some z := by
  have e : ps = ps.take i ++ p :: ps.drop (i + 1) := by
    obtain ⟨hi, rfl⟩ := List.getElem?_eq_some_iff.mp h
    rw [← List.drop_eq_getElem_cons hi, List.take_append_drop]
  unfold faultP
  rw [e, List.findSome?_append, List.findSome?_eq_none_iff.mpr h0]
  simp [hb]
section
variable {P : Program} {w : World} {K : PySem.W.Frag} {mg : Str → Option Value} {base : Heap}
abbrev s_joined : Stmt := topS 37
theorem sc_joined : FnScope ["rows", "one", "two"] ["rows", "one", "two"] (defScope s_joined) := ⟨rfl, rfl, rfl, by decide +kernel, rfl, by decide +kernel, by decide +kernel⟩
theorem ok_joined {f : Addr} {fd : FuncData} (F : Fun K "_law_joined" "_law_joined" s_joined f fd) (T : Blt mg) : FnOk P w K mg base CX0 1 f fd ["rows", "one", "two"] (sp_joined K) := by
  refine F.ok sc_joined (fun vs H Q E h => ?_) (fun cdv A outer s H vs Q E hr h => ?_)
  · obtain ⟨_, _, _, _, _, _, _, rfl, _⟩ := h
    rfl
  · obtain ⟨p, n, M, _, _, a, b, rfl, hR, ⟨ta, rfl, hta⟩, ⟨tb, rfl, htb⟩, hin, q⟩ := h
    refine ⟨_, (pss_one (ps_ret (pe_and (pe_ix (ixL K) (pe_ix (ixL K) (pv 0) (pe_ix (ixT K) (pv 1) pe_int (fun _ _ => rfl)) (fun _ _ => rfl)) (pe_ix (ixT K) (pv 2) pe_int (fun _ _ => rfl)) (fun _ _ => rfl)) (pe_one (pe_ix (ixL K) (pe_ix (ixL K) (pv 0) (pe_ix (ixT K) (pv 2) pe_int (fun _ _ => rfl)) (fun _ _ => rfl)) (pe_ix (ixT K) (pv 1) pe_int (fun _ _ => rfl)) (fun _ _ => rfl)))))), ?_⟩
    have ia := hin a (by simp)
    have ib := hin b (by simp)
    obtain ⟨a1, ea1⟩ := Int.eq_ofNat_of_zero_le ia.1.1
    obtain ⟨a2, ea2⟩ := Int.eq_ofNat_of_zero_le ia.2.1
    obtain ⟨b1, eb1⟩ := Int.eq_ofNat_of_zero_le ib.1.1
    obtain ⟨b2, eb2⟩ := Int.eq_ofNat_of_zero_le ib.2.1
    have ha1 : a1 < n := by omega
    have ha2 : a2 < n := by omega
    have hb1 : b1 < n := by omega
    have hb2 : b2 < n := by omega
    rw [ea1, ea2] at hta
    rw [eb1, eb2] at htb
    obtain ⟨rs, r, g1, g2, g3⟩ := hR.get ha1
    obtain ⟨rs', r', g1', g2', g3'⟩ := hR.get hb1
    refine ⟨_, rfl, _, rfl, _, _, _, _, rfl, rfl, SqT.of hta, rfl, _, _, _, _, rfl, rfl, SqL.of g1, atI_nat g2, _, rfl, _, _, _, _, rfl, rfl, SqT.of htb, rfl, _, _, _, _, rfl, rfl, SqL.of g3, atI_nat (rowV_get hb2), _, rfl, ite2 (fun c => ?_) (fun c => ?_)⟩
    · exact ⟨_, rfl, _, rfl, _, _, _, _, rfl, rfl, SqT.of htb, rfl, _, _, _, _, rfl, rfl, SqL.of g1', atI_nat g2', _, rfl, _, _, _, _, rfl, rfl, SqT.of hta, rfl, _, _, _, _, rfl, rfl, SqL.of g3', atI_nat (rowV_get ha2), q _⟩
    · exact q _
abbrev s_line_pairs : Stmt := topS 38
theorem sc_line_pairs : FnScope ["rows", "line", "pairs", "at", "r"] ["rows", "line"] (defScope s_line_pairs) := ⟨rfl, rfl, rfl, by decide +kernel, rfl, by decide +kernel, by decide +kernel⟩
theorem ok_line_pairs {f : Addr} {fd : FuncData} {f_beside : Addr} {fd_beside : FuncData} (F : Fun K "_law_line_pairs" "_law_line_pairs" s_line_pairs f fd) (T : Blt mg) (C_beside : Cal K mg "_law_beside" f_beside fd_beside ["rows", "a", "b"]) (G_beside : FnOk P w K mg base CX0 1 f_beside fd_beside ["rows", "a", "b"] (sp_beside K)) : FnOk P w K mg base CX0 2 f fd ["rows", "line"] (sp_line_pairs K) := by
  refine F.ok sc_line_pairs (fun vs H Q E h => ?_) (fun cdv A outer s H vs Q E hr h => ?_)
  · obtain ⟨_, _, _, _, _, rfl, _⟩ := h
    rfl
  · obtain ⟨p, l, n, M, ds, rfl, hR, hl, hlt, hlen, q⟩ := h
    refine ⟨_, (pss_cons (ps_set (i := 2) sc_line_pairs.nd rfl (Or.inl rfl) (pe_lst pa_nil))
    (pss_cons (ps_for PassesOwn.never rfl (pi_range1 rfl T.range (pa_cons (pe_callB (lenK K) (by rfl) T.len PySem.boot_len (pa_cons (pv 1) pa_nil)) pa_nil)) (pg_name (i := 3) sc_line_pairs.nd rfl (Or.inr rfl))
      (pss_one (ps_expr (pe_bm PySem.F.plainAttrs_list PySem.F.slot_list_extend PySem.F.type_list_extend mt_extend (pv 2) (pa_cons (pe_lc (own := [("r", 4)]) (g := gName 4) rfl sc_line_pairs.nd (pi_list (pe_slice (slL K) (pv 1) po_none (po_some (pv 3)))) (blkOk_by (N := ["rows", "line", "pairs", "at", "r"]) (sc := defScope s_line_pairs) (by decide +kernel)) (fun _ _ _ _ _ => (pg_name (i := 4) sc_line_pairs.nd rfl (Or.inl rfl))) (fun _ _ _ _ _ => (pts_one (pt_val (pe_call G_beside (hr.mono (by decide)) (by rfl) C_beside.g C_beside.kp C_beside.b .nil pass0 (pa_cons (pv 0) (pa_cons (pv 4) (pa_cons (pe_ix (ixL K) (pv 1) (pv 3) (fun _ _ => rfl)) pa_nil))))))) (fun _ _ _ _ _ => (pe_tup (pa_cons (pv 4) (pa_cons (pe_ix (ixL K) (pv 1) (pv 3) (fun _ _ => rfl)) pa_nil))))) pa_nil)))))
    (pss_one (ps_ret (pe_callB (sortQK K) (by rfl) T.sorted (by decide +kernel) (pa_cons (pv 2) pa_nil)))))), ?_⟩
    refine ⟨(by show 0 ≤ sizeLine; decide), fun o no => ?_⟩
    have hl0 : H l = some (.lst (natV ds)) := hl
    refine ⟨_, rfl, _, _, rfl, .inl (SqL.of (by rw [upd_ne (ne_of_none hl0 no)]; exact hl0)), _, rfl, (by rw [natV_len]; omega), (by rw [natV_len]; omega), for_range (lo := 0) (n := (natV ds).length) (fun i σ H1 => ∃ y3 ys ps, σ = [some (.ref p), some (.ref l), some (.ref o), y3, none] ∧ Same H H1 ∧ H1 o = some (.lst ys) ∧ Each (PairV H1) ys ps ∧ InR n ps ∧ ps.length ≤ i * 100)
      ⟨none, [], [], rfl, same_new no, upd_same, Each.nil, (fun _ h => by simp at h), by simp⟩ ?_ ?_⟩
    · rintro i σ H1 hi ⟨y3, ys, ps, rfl, sm, ho, he, hin, hpl⟩
      have hR1 := hR.keep (keep_same sm)
      have hl1 : H1 l = some (.lst (natV ds)) := sm _ _ hl0
      rw [natV_len] at hi
      refine ⟨_, rfl, .inl ⟨rfl, _, SqL.of ho⟩, ?_⟩
      refine ⟨_, rfl, _, rfl, _, rfl, _, _, rfl, SqL.of hl1, fun cs ncs => ?_⟩
      have s1 : Same H1 (upd H1 cs (.lst (cutV (natV ds) none (some (0 + (i : Int)))))) := same_new ncs
      have ecut : cutV (natV ds) none (some (0 + (i : Int))) = natV (ds.take i) := by
        unfold cutV
        rw [HT.sIx_none, show (0 : Int) + (i : Int) = (i : Int) by omega, show HT.sIx (natV ds).length (natV ds).length (some (i : Int)) = min i (natV ds).length from HT.sIx_nat _ _ i, natV_len, Nat.sub_zero, List.drop_zero, Nat.min_eq_left (by omega)]
        unfold natV
        rw [List.map_take]
      have hcs : (upd H1 cs (.lst (cutV (natV ds) none (some (0 + (i : Int)))))) cs = some (.lst (natV (ds.take i))) := by rw [upd_same, ecut]
      have hdi := List.getElem?_eq_getElem hi
      have hdn : ds[i] < n := hlt _ (List.getElem_mem hi)
      refine ⟨_, rfl, ⟨_, SqL.of hcs⟩, fun D hD => lc_list (xs := natV (ds.take i)) (fun j H2 => ∃ zs qs, Same (upd H1 cs (.lst (cutV (natV ds) none (some (0 + (i : Int)))))) H2 ∧ H2 D = some (.lst zs) ∧ Each (PairV H2) zs qs ∧ InR n qs ∧ qs.length ≤ j) ⟨[], [], same_new hD, upd_same, Each.nil, (fun _ h => by simp at h), by simp⟩ (fun j H2 _ h => ?_) ?_ ?_⟩
      · obtain ⟨_, _, h, _⟩ := h
        exact SqL.of (h _ _ hcs)
      · rintro j x H2 hx ⟨zs, qs, sm2, hd, hz, hq, hql⟩
        obtain ⟨r, hr1, rfl⟩ := natV_of hx
        have hrn : r < n := hlt _ (List.mem_of_mem_take (List.mem_of_getElem? hr1))
        have hj : j < 100 := by
          have := (List.getElem?_eq_some_iff.mp hr1).1
          rw [List.length_take] at this
          omega
        have hl2 : H2 l = some (.lst (natV ds)) := sm2 _ _ (s1 _ _ hl1)
        refine ⟨rfl, ?_⟩
        refine ⟨_, rfl, _, rfl, _, rfl, _, rfl, _, _, _, _, rfl, rfl, SqL.of hl2, at_zero (natV_get hdi), p, n, M, r, ds[i], rfl, hR1.keep (keep_same (s1.trans sm2)), hrn, hdn, _, rfl, ite2 (fun c => ?_) (fun c => ?_)⟩
        · refine ⟨_, rfl, _, rfl, _, rfl, _, _, _, _, rfl, rfl, SqL.of hl2, at_zero (natV_get hdi), (by show 2 ≤ sizeLine; decide), fun t nt => ?_⟩
          have nDt : D ≠ t := ne_of_none hd nt
          refine ⟨zs, by rw [upd_ne nDt]; exact hd, size_lt (by rw [hz.1]; omega), zs ++ [.ref t], qs ++ [((r : Int), (ds[i] : Int))], same_mut (sm2.trans (same_new nt)) hD, upd_same, ?_, ?_, by rw [List.length_append]; exact Nat.add_le_add_right hql 1⟩
          · exact Each.snoc (each_upd (by rw [upd_ne nDt]; exact hd) (each_keep (keep_same (same_new nt)) hz)) (PairV.upd (by rw [upd_ne nDt]; exact hd) ⟨t, rfl, upd_same⟩)
          · exact hq.append fun x hx => by
              rw [List.mem_singleton] at hx
              rw [hx]
              exact ⟨⟨by omega, by omega⟩, by omega, by omega⟩
        · exact ⟨zs, qs, sm2, hd, hz, hq, by omega⟩
      · rintro H2 ⟨zs, qs, sm2, hd, hz, hq, hql⟩
        rw [natV_len, List.length_take] at hql
        have ho2 : H2 o = some (.lst ys) := sm2 _ _ (s1 _ _ ho)
        have hi100 : i * 100 ≤ 100 * 100 := Nat.mul_le_mul_right _ (by omega)
        refine ⟨_, _, _, _, rfl, rfl, ho2, hd, size_le (by rw [he.1, hz.1]; omega), ?_⟩
        refine ⟨_, _, ps ++ qs, rfl, same_mut (sm.trans (s1.trans sm2)) no, upd_same, ?_, hin.append hq, by rw [List.length_append]; omega⟩
        exact Each.append (each_upd ho2 (each_keep (keep_same (s1.trans sm2)) he)) (each_upd ho2 hz)
    · rintro σ H1 ⟨y3, ys, ps, rfl, sm, ho, he, hin, hpl⟩
      rw [natV_len] at hpl
      have h100 : ds.length * 100 ≤ 100 * 100 := Nat.mul_le_mul_right _ hlen
      refine ⟨_, rfl, _, ys, rfl, SqL.of ho, (fun x hx => ?_), fun zs r pm nr => ?_⟩
      · obtain ⟨p', _, t, e, ht⟩ := he.mem hx
        exact ⟨t, _, _, e, ht⟩
      · obtain ⟨qs, k1, k2⟩ := Each.perm pm he
        exact q r qs _ (sm.trans (same_new nr)) (sm.free nr) ⟨zs, upd_same, each_keep (keep_same (same_new nr)) k1⟩ (hin.perm k2) (by rw [k2.length_eq]; omega)
abbrev s_pairs_fault : Stmt := topS 39
theorem sc_pairs_fault : FnScope ["size", "pairs", "a", "b"] ["size", "pairs"] (defScope s_pairs_fault) := ⟨rfl, rfl, rfl, by decide +kernel, rfl, by decide +kernel, by decide +kernel⟩
theorem ok_pairs_fault {f : Addr} {fd : FuncData} (F : Fun K "_law_pairs_fault" "_law_pairs_fault" s_pairs_fault f fd) (T : Blt mg) : FnOk P w K mg base CX0 1 f fd ["size", "pairs"] (sp_pairs_fault K) := by
  refine F.ok sc_pairs_fault (fun vs H Q E h => ?_) (fun cdv A outer s H vs Q E hr h => ?_)
  · obtain ⟨_, _, _, rfl, _⟩ := h
    rfl
  · obtain ⟨n, l, ps, rfl, ⟨xs, hx1, hx2⟩, qn, qs⟩ := h
    refine ⟨_, (pss_cons (ps_for PassesOwn.never rfl (pi_list (pv 1)) (pg_tup rfl (pgs_cons (pg_name (i := 2) sc_pairs_fault.nd rfl (Or.inl rfl)) (pgs_cons (pg_name (i := 3) sc_pairs_fault.nd rfl (Or.inl rfl)) pgs_nil)))
      (pss_cons (ps_if (pt_not (pt_chain op_le op_lt pe_int (pv 2) (pv 0)))
          (pss_one (ps_ret (pe_tup (pa_cons pe_str (pa_cons (pv 2) pa_nil)))))
          pss_nil)
        (pss_one (ps_if (pt_not (pt_chain op_le op_lt pe_int (pv 3) (pv 0)))
          (pss_one (ps_ret (pe_tup (pa_cons pe_str (pa_cons (pv 3) pa_nil)))))
          pss_nil))))
    (pss_one (ps_ret pe_non))), ?_⟩
    refine ⟨_, rfl, _, rfl, ⟨_, SqL.of hx1⟩, for_list (xs := xs) (fun i σ H1 => ∃ y2 y3, σ = [some (.int n), some (.ref l), y2, y3] ∧ H1 = H ∧ ∀ r ∈ ps.take i, badOf n r = none) ⟨none, none, rfl, rfl, by simp⟩ (fun i σ H1 _ h => ?_) ?_ ?_⟩
    · obtain ⟨_, _, _, rfl, _⟩ := h
      exact SqL.of hx1
    · rintro i x σ H1 hx ⟨y2, y3, rfl, rfl, h0⟩
      obtain ⟨⟨a, b⟩, hp, t, rfl, ht⟩ := hx2.2 i x hx
      refine ⟨t, _, rfl, SqT.of ht, rfl, _, _, rfl, _, _, rfl, rfl, ?_⟩
      have step : badOf n (a, b) = none → ∀ r ∈ ps.take (i + 1), badOf n r = none := fun hb r hr => by
        rw [take_more hp] at hr
        rcases List.mem_append.mp hr with hr | hr
        · exact h0 r hr
        · rw [List.mem_singleton] at hr; rw [hr]; exact hb
      have second : ∀ {D : Ends}, 0 ≤ a → a < n → (badOf n (a, b) = none → D.nx [some (.int n), some (.ref l), some (.int a), some (.int b)] H1) → (∀ z, badOf n (a, b) = some z → ∀ t : Addr, H1 t = none → D.rt (.ref t) (upd H1 t (.tup [.str "BadDeed", .int z]))) →
          tIfS (tNot (tTest (tChain (rI0 fun i j => .bl (decide (i ≤ j))) (rI0 fun i j => .bl (decide (i < j))) (tC (.int 0)) (tVar 3) (tVar 0)))) (tRet (tTup (tCons (tC (.str "BadDeed")) (tCons (tVar 3) tNil)))) tNext D [some (.int n), some (.ref l), some (.int a), some (.int b)] H1 := fun {D} h1 h2 kn kt => by
        have hbad : ¬ (0 ≤ b ∧ b < n) → badOf n (a, b) = some b := fun h => by
          unfold badOf
          rw [if_neg (fun z => z ⟨h1, h2⟩), if_pos h]
        have hgood : 0 ≤ b ∧ b < n → badOf n (a, b) = none := fun h => by
          unfold badOf
          rw [if_neg (fun z => z ⟨h1, h2⟩), if_neg (fun z => z h)]
        refine ⟨_, rfl, _, _, rfl, rfl, _, rfl, ite2 (fun c => ?_) (fun c => ?_)⟩
        · refine ⟨_, rfl, _, _, rfl, rfl, _, rfl, ?_⟩
          by_cases c2 : b < (n : Int)
          · rw [decide_eq_true c2]
            exact iteF (kn (hgood ⟨of_decide_eq_true c, c2⟩))
          · rw [decide_eq_false c2]
            refine iteT ⟨_, rfl, (by show 2 ≤ sizeLine; decide), fun t nt => ?_⟩
            exact kt b (hbad fun z => c2 z.2) t nt
        · refine ⟨_, rfl, iteT ⟨_, rfl, (by show 2 ≤ sizeLine; decide), fun t nt => ?_⟩⟩
          exact kt b (hbad fun z => c (decide_eq_true z.1)) t nt
      have out : ∀ z, badOf n (a, b) = some z → ∀ t : Addr, H1 t = none → Q (.ref t) (upd H1 t (.tup [.str "BadDeed", .int z])) := fun z hz t nt => qs z t (fault_take hp h0 hz) nt
      have hbada : ¬ (0 ≤ a ∧ a < n) → badOf n (a, b) = some a := fun h => by
        unfold badOf
        rw [if_pos h]
      refine ⟨_, rfl, _, _, rfl, rfl, _, rfl, ite2 (fun c => ?_) (fun c => ?_)⟩
      · refine ⟨_, rfl, _, _, rfl, rfl, _, rfl, ?_⟩
        by_cases c2 : a < (n : Int)
        · rw [decide_eq_true c2]
          refine iteF ?_
          exact second (of_decide_eq_true c) c2 (fun hb => ⟨_, _, rfl, rfl, step hb⟩) out
        · rw [decide_eq_false c2]
          refine iteT ⟨_, rfl, (by show 2 ≤ sizeLine; decide), fun t nt => ?_⟩
          exact out a (hbada fun z => c2 z.2) t nt
      · refine ⟨_, rfl, iteT ⟨_, rfl, (by show 2 ≤ sizeLine; decide), fun t nt => ?_⟩⟩
        exact out a (hbada fun z => c (decide_eq_true z.1)) t nt
    · rintro σ H1 ⟨y2, y3, rfl, rfl, h0⟩
      refine qn ?_
      rw [hx2.1, List.take_length] at h0
      exact List.findSome?_eq_none_iff.mpr h0
end
end Few
set_option maxHeartbeats 4000000
namespace Few
open PySem PySem.Spec PyProof.Rows L2
theorem idx_at : ∀ {l : List Nat} {i x : Nat}, l.Nodup → l[i]? = some x → l.idxOf x = i
  | [], i, x, _, h => by simp at h
  | a :: l, 0, x, _, h => by
    have e : a = x := Option.some.inj h
    rw [e, List.idxOf_cons_self]
  | a :: l, i + 1, x, nd, h => by
    have nd' := List.nodup_cons.mp nd
    have hx : l[i]? = some x := h
    have hne : a ≠ x := fun e => nd'.1 (e ▸ List.mem_of_getElem? hx)
    have hb : (a == x) = false := by simpa using hne
    rw [List.idxOf_cons, hb, idx_at nd'.2 hx] <;> rfl
theorem natV_perm {ys : List V} {n : Nat} (h : ys.Perm (natV (List.range n))) : ∃ l : List Nat, ys = natV l ∧ l.Perm (List.range n) := by
  have e0 : Each (fun v x => v = V.int ((x : Nat) : Int)) (natV (List.range n)) (List.range n) := by
    refine ⟨natV_len, fun i v hv => ?_⟩
    obtain ⟨x, h1, h2⟩ := natV_of hv
    exact ⟨x, h1, h2⟩
  obtain ⟨qs, k1, k2⟩ := Each.perm h e0
  refine ⟨qs, ?_, k2⟩
  apply List.ext_getElem?
  intro i
  cases e : ys[i]? with
  | none =>
    have : qs.length ≤ i := by rw [← k1.1]; exact List.getElem?_eq_none_iff.mp e
    rw [List.getElem?_eq_none (by rw [natV_len]; exact this)]
  | some v =>
    obtain ⟨x, h1, rfl⟩ := k1.2 i v e
    rw [natV_get h1]
theorem rg_nat (n : Nat) : rgV 0 (n : Int) = natV (List.range n) := by
  unfold rgV natV
  rw [show ((n : Int) - 0).toNat = n by omega]
  exact List.map_congr_left fun i _ => by rw [Int.zero_add]
theorem initM_perm {ps qs : List (Int × Int)} (h : qs.Perm ps) : initM qs = initM ps := by
  funext x y
  unfold initM
  exact decide_eq_decide.mpr h.mem_iff
/-- pairs that go forward along l -/
def Fwd (l : List Nat) (ps : List (Int × Int)) : Prop := ∀ p ∈ ps, ∃ i j x y : Nat, i < j ∧ l[i]? = some x ∧ l[j]? = some y ∧ p = ((x : Int), (y : Int))
theorem Fwd.rises {l : List Nat} {ps : List (Int × Int)} {n : Nat} (nd : l.Nodup) (h : Fwd l ps) : Rises n (clos n ps) := by
  refine ⟨fun x => l.idxOf x, fun a b _ _ hM => ?_⟩
  refine upto_least (M := initM ps) (R := fun a b => l.idxOf a < l.idxOf b) (fun x y hxy => ?_) (fun _ _ _ h1 h2 => Nat.lt_trans h1 h2) n a b hM
  obtain ⟨i, j, u, v, hij, h1, h2, e⟩ := h _ (of_decide_eq_true hxy)
  injection e with e1 e2
  have e1 : x = u := by omega
  have e2 : y = v := by omega
  rw [e1, e2, idx_at nd h1, idx_at nd h2]
  exact hij
theorem at_mem {xs : List Int} {i : Int} (h0 : 0 ≤ i) (h1 : i < (xs.length : Int)) : ∃ z ∈ xs, atI (xs.map V.int) i = some (.int z) := by
  obtain ⟨n, rfl⟩ := Int.eq_ofNat_of_zero_le h0
  have hn : n < xs.length := by omega
  exact ⟨xs[n], List.getElem_mem hn, atI_nat (by rw [List.getElem?_map, List.getElem?_eq_getElem hn] <;> rfl)⟩
def sp_small_web (_ : PySem.W.Frag) : Sp := fun vs H Q _ => ∃ (s c : Addr) (m : Nat), vs = [.ref s, .int m] ∧ StoreAt H s c ∧ m ≤ 16 ∧
  ∀ (t l r : Addr) (n : Nat) (ps qs : List (Int × Int)) (H' : Hp), n ≤ m → Fr s H H' → StoreAt H' s c → H' t = some (.tup [.int n, .ref l, .ref r]) → PairsAt H' l qs → qs.Perm ps → RowsAt H' r n (clos n ps) →
    InR n ps → ps.length ≤ 256 → Rises n (clos n ps) → Q (.ref t) H'
section
variable {P : Program} {w : World} {K : PySem.W.Frag} {mg : Str → Option Value} {base : Heap}
abbrev s_small_web : Stmt := topS 41
theorem sc_small_web : FnScope ["store", "most", "size", "many", "crowned", "share", "row", "pairs", "b", "a", "told"] ["store", "most"] (defScope s_small_web) := ⟨rfl, rfl, rfl, by decide +kernel, rfl, by decide +kernel, by decide +kernel⟩
theorem ok_small_web {f : Addr} {fd : FuncData} {f_mixed : Addr} {fd_mixed : FuncData} {f_take : Addr} {fd_take : FuncData} {f_closure : Addr} {fd_closure : FuncData} (F : Fun K "_law_small_web" "_law_small_web" s_small_web f fd) (T : Blt mg) (C_mixed : Cal K mg "_law_mixed" f_mixed fd_mixed ["store", "items"]) (G_mixed : FnOk P w K mg base CX0 2 f_mixed fd_mixed ["store", "items"] (sp_mixed K)) (C_take : Cal K mg "_law_take" f_take fd_take ["store", "many"]) (G_take : FnOk P w K mg base CX0 1 f_take fd_take ["store", "many"] (sp_take K)) (C_closure : Cal K mg "_law_closure" f_closure fd_closure ["size", "pairs"]) (G_closure : FnOk P w K mg base CX0 1 f_closure fd_closure ["size", "pairs"] (sp_closure K)) : FnOk P w K mg base CX0 3 f fd ["store", "most"] (sp_small_web K) := by
  refine F.ok sc_small_web (fun vs H Q E h => ?_) (fun cdv A outer s H vs Q E hr h => ?_)
  · obtain ⟨_, _, _, rfl, _⟩ := h
    rfl
  · obtain ⟨st, c, m, rfl, hS, hm, q⟩ := h
    refine ⟨_, (pss_cons (ps_set (i := 2) sc_small_web.nd rfl (Or.inl rfl) (pe_callB (call_min2 rfl) (by rfl) T.min (by decide +kernel) (pa_cons (pv 1) (pa_cons (pe_ix (ixL K) (pe_lst (pa_cons (pv 1) (pa_cons pe_int (pa_cons pe_int (pa_cons pe_int (pa_cons pe_int (pa_cons pe_int (pa_cons (pe_call G_take (hr.mono (by decide)) (by rfl) C_take.g C_take.kp C_take.b .nil pass0 (pa_cons (pv 0) (pa_cons pe_int pa_nil))) (pa_cons (pv 1) pa_nil))))))))) (pe_call G_take (hr.mono (by decide)) (by rfl) C_take.g C_take.kp C_take.b .nil pass0 (pa_cons (pv 0) (pa_cons pe_int pa_nil))) (fun _ _ => rfl)) pa_nil))))
    (pss_cons (ps_set (i := 3) sc_small_web.nd rfl (Or.inl rfl) (pe_callB (call_min2 rfl) (by rfl) T.min (by decide +kernel) (pa_cons (pe_op op_fdiv (pv 2) pe_int) (pa_cons (pe_op op_add pe_int (pe_call G_take (hr.mono (by decide)) (by rfl) C_take.g C_take.kp C_take.b .nil pass0 (pa_cons (pv 0) (pa_cons pe_int pa_nil)))) pa_nil))))
    (C8.pss_cut (ps_set (i := 4) sc_small_web.nd rfl (Or.inl rfl) (pe_and (pe_cmpR op_ge (pv 2) pe_int (nomark _)) (pe_one (pe_cmpR op_gt (pe_call G_take (hr.mono (by decide)) (by rfl) C_take.g C_take.kp C_take.b .nil pass0 (pa_cons (pv 0) (pa_cons pe_int pa_nil))) pe_int (nomark _)))))
    (pss_cons (ps_set (i := 5) sc_small_web.nd rfl (Or.inl rfl) (pe_op op_add pe_int (pe_call G_take (hr.mono (by decide)) (by rfl) C_take.g C_take.kp C_take.b .nil pass0 (pa_cons (pv 0) (pa_cons pe_int pa_nil)))))
    (pss_cons (ps_set (i := 6) sc_small_web.nd rfl (Or.inl rfl) (pe_call G_mixed (hr.mono (by decide)) (by rfl) C_mixed.g C_mixed.kp C_mixed.b .nil pass0 (pa_cons (pv 0) (pa_cons (pe_listRg rfl (by rfl) T.list (prg_1 (by rfl) T.range (pv 2))) pa_nil))))
    (pss_cons (ps_set (i := 7) sc_small_web.nd rfl (Or.inl rfl) (pe_lst pa_nil))
    (pss_cons (ps_for PassesOwn.never rfl (pi_range1 rfl T.range (pa_cons (pv 2) pa_nil)) (pg_name (i := 8) sc_small_web.nd rfl (Or.inl rfl))
      (pss_one (ps_for PassesOwn.never rfl (pi_range1 rfl T.range (pa_cons (pv 8) pa_nil)) (pg_name (i := 9) sc_small_web.nd rfl (Or.inl rfl))
          (pss_cons (ps_set (i := 10) sc_small_web.nd rfl (Or.inl rfl) (pe_cmpR op_eq (pe_call G_take (hr.mono (by decide)) (by rfl) C_take.g C_take.kp C_take.b .nil pass0 (pa_cons (pv 0) (pa_cons (pv 5) pa_nil))) pe_int (nomark _)))
            (C8.pss_cut (ps_if (PW.pt (pw_and (pt_val (pv 4)) (pw_and (pt_cmpR op_lt (pv 9) (pv 3) (nomark _)) (pw_and1 (pt_cmpR op_ge (pv 8) (pe_op op_sub (pv 2) (pv 3)) (nomark _))))))
              (pss_one (ps_set (i := 10) sc_small_web.nd rfl (Or.inl rfl) (pe_cmpR op_ne (pv 9) (pe_op op_sub (pv 8) (pe_op op_sub (pv 2) (pv 3))) (nomark _))))
              (pss_one (ps_if (PW.pt (pw_and (pt_val (pv 4)) (pw_and1 (pt_cmpR op_eq (pv 9) pe_int (nomark _)))))
                  (pss_one (ps_set (i := 10) sc_small_web.nd rfl (Or.inl rfl) (pe_and (pv 10) (pe_one (pe_cmpR op_ge (pv 8) (pv 3) (nomark _))))))
                  (pss_one (ps_if (pt_val (pv 4))
                      (pss_one (ps_set (i := 10) sc_small_web.nd rfl (Or.inl rfl) (pe_and (pv 10) (pe_and (pe_cmpR op_ge (pv 9) (pv 3) (nomark _)) (pe_and (pe_cmpR op_eq (pv 8) (pe_op op_sub (pv 2) pe_int) (nomark _)) (pe_one (pe_cmpR op_lt (pv 9) (pe_op op_sub (pv 2) (pv 3)) (nomark _))))))))
                      pss_nil)))))
            (pss_one (ps_if (pt_val (pv 10))
              (pss_one (ps_expr (pe_bm PySem.F.plainAttrs_list PySem.F.slot_list_append PySem.F.type_list_append mt_append (pv 7) (pa_cons (pe_tup (pa_cons (pe_ix (ixL K) (pv 6) (pv 9) (fun _ _ => rfl)) (pa_cons (pe_ix (ixL K) (pv 6) (pv 8) (fun _ _ => rfl)) pa_nil))) pa_nil))))
              pss_nil)))))))
    (pss_one (ps_ret (pe_tup (pa_cons (pv 2) (pa_cons (pe_call G_mixed (hr.mono (by decide)) (by rfl) C_mixed.g C_mixed.kp C_mixed.b .nil pass0 (pa_cons (pv 0) (pa_cons (pv 7) pa_nil))) (pa_cons (pe_call G_closure (hr.mono (by decide)) (by rfl) C_closure.g C_closure.kp C_closure.b .nil pass0 (pa_cons (pv 2) (pa_cons (pv 7) pa_nil))) pa_nil))))))))))))), ?_⟩
    -- size
    refine ⟨_, rfl, _, rfl, _, rfl, st, c, _, rfl, hS, small9000 (by decide) (by decide), fun r1 H1 r10 r11 fr1 st1 => ?_⟩
    refine ⟨_, rfl, (by show 8 ≤ sizeLine; decide), fun p1 np1 => ?_⟩
    have st1' := st1.new (o := .lst [V.int (m : Int), V.int 4, V.int 3, V.int 5, V.int 2, V.int 6, V.int r1, V.int (m : Int)]) np1
    refine ⟨_, rfl, st, c, _, rfl, st1', small9000 (by decide) (by decide), fun r2 H2 r20 r21 fr2 st2 => ?_⟩
    obtain ⟨z, hz, hz2⟩ := at_mem (xs := [(m : Int), 4, 3, 5, 2, 6, r1, (m : Int)]) (i := r2) r20 (by show r2 < 8; omega)
    have hz0 : 0 ≤ z := by
      simp only [List.mem_cons, List.not_mem_nil, or_false] at hz
      omega
    refine ⟨_, _, _, _, rfl, rfl, SqL.of (fr2 _ _ (ne_new st1 np1) upd_same), hz2, _, _, rfl, ?_⟩
    obtain ⟨n, hn⟩ : ∃ n : Nat, (n : Int) = if z < (m : Int) then z else (m : Int) := by
      refine ⟨(if z < (m : Int) then z else (m : Int)).toNat, ?_⟩
      split <;> omega
    have hnm : n ≤ m := by
      have : (n : Int) ≤ m := by rw [hn]; split <;> omega
      omega
    rw [← hn]
    have f2 : Fr st H H2 := (fr1.trans (Fr.of (same_new np1))).trans fr2
    -- many
    refine ⟨_, rfl, _, _, rfl, rfl, ⟨by decide, by decide⟩, _, rfl, st, c, _, rfl, st2, small9000 (by decide) (by decide), fun r3 H3 r30 r31 fr3 st3 => ?_⟩
    refine ⟨_, _, rfl, rfl, _, _, rfl, ?_⟩
    obtain ⟨my, hmy⟩ : ∃ my : Int, my = if 2 + r3 < (n : Int) / 2 then 2 + r3 else (n : Int) / 2 := ⟨_, rfl⟩
    rw [← hmy]
    -- crowned
    refine ⟨fun σ H' => ∃ k : Bool, σ = [some (.ref st), some (.int m), some (.int n), some (.int my), some (.bl k), none, none, none, none, none, none] ∧ Fr st H H' ∧ StoreAt H' st c, ?_, ?_⟩
    · refine ⟨_, rfl, _, _, rfl, rfl, _, rfl, ite2 (fun c2 => ?_) (fun c2 => ?_)⟩
      · refine ⟨_, rfl, st, c, _, rfl, st3, small9000 (by decide) (by decide), fun r4 H4 _ _ fr4 st4 => ?_⟩
        refine ⟨_, _, rfl, rfl, ?_⟩
        exact ⟨_, rfl, (f2.trans fr3).trans fr4, st4⟩
      · exact ⟨_, rfl, f2.trans fr3, st3⟩
    · rintro σ H3' ⟨ck, rfl, f3, st3'⟩
      -- share
      refine ⟨_, rfl, st, c, _, rfl, st3', small9000 (by decide) (by decide), fun r5 H5 r50 r51 fr5 st5 => ?_⟩
      refine ⟨_, _, rfl, rfl, ?_⟩
      -- row = mixed(list(range(size)))
      refine ⟨_, rfl, _, rfl, _, rfl, ⟨by omega, by omega, by omega, by omega, by omega⟩, fun rl nrl => ?_⟩
      rw [rg_nat]
      have st5' := st5.new (o := .lst (natV (List.range n))) nrl
      refine ⟨st, c, rl, _, rfl, st5', upd_same, ne_new st5 nrl, by rw [natV_len, List.length_range]; omega, fun rw_ ys H6 pm nrw hrw fr6 st6 => ?_⟩
      obtain ⟨l, rfl, pl⟩ := natV_perm pm
      have f6 : Fr st H H6 := ((f3.trans fr5).trans (Fr.of (same_new nrl))).trans fr6
      have ll : l.length = n := by rw [pl.length_eq, List.length_range]
      have lnd : l.Nodup := pl.nodup_iff.mpr List.nodup_range
      have llt : ∀ x ∈ l, x < n := fun x hx => List.mem_range.mp (pl.mem_iff.mp hx)
      refine ⟨(by show 0 ≤ sizeLine; decide), fun pp npp => ?_⟩
      have frn : ∀ {a : Addr} {H' : Hp}, Fr st H H' → StoreAt H' st c → H' a = none → H a = none := fun {a H'} f s h => by
        cases e : H a with
        | none => rfl
        | some o =>
          have := f a o (ne_new s h) e
          rw [h] at this; cases this
      have hpp0 := frn f6 st6 npp
      have nrp : rw_ ≠ pp := ne_of_none hrw npp
      -- for b in range(size)
      refine ⟨_, rfl, _, rfl, (by omega), (by omega), for_range (lo := 0) (n := n) (fun i σ H' => ∃ (xs : List V) (ps : List (Int × Int)) (y8 y9 y10 : Option V), σ = [some (.ref st), some (.int m), some (.int n), some (.int my), some (.bl ck), some (.int (2 + r5)), some (.ref rw_), some (.ref pp), y8, y9, y10] ∧
          Fr st H H' ∧ StoreAt H' st c ∧ H' rw_ = some (.lst (natV l)) ∧ H' pp = some (.lst xs) ∧ Each (PairV H') xs ps ∧ Fwd l ps ∧ ps.length ≤ i * 16)
        ⟨[], [], none, none, none, rfl, f6.mut hpp0, st6.new npp, by rw [upd_ne nrp]; exact hrw, upd_same, Each.nil, (fun _ h => by simp at h), by simp⟩ ?_ ?_⟩
      · rintro i σ H7 hi ⟨xs, ps, y8, y9, y10, rfl, f7, st7, hrw7, hpp7, he7, hf7, hl7⟩
        refine ⟨_, rfl, _, rfl, (by omega), (by omega), ?_⟩
        rw [show (0 + (i : Int)).toNat = i by omega]
        refine for_range (lo := 0) (n := i) (fun j σ H' => ∃ (xs : List V) (ps : List (Int × Int)) (y9 y10 : Option V), σ = [some (.ref st), some (.int m), some (.int n), some (.int my), some (.bl ck), some (.int (2 + r5)), some (.ref rw_), some (.ref pp), some (.int (0 + (i : Int))), y9, y10] ∧
          Fr st H H' ∧ StoreAt H' st c ∧ H' rw_ = some (.lst (natV l)) ∧ H' pp = some (.lst xs) ∧ Each (PairV H') xs ps ∧ Fwd l ps ∧ ps.length ≤ i * 16 + j)
          ⟨xs, ps, _, _, rfl, f7, st7, hrw7, hpp7, he7, hf7, by omega⟩ ?_ ?_
        · rintro j σ H8 hj ⟨xs, ps, y9, y10, rfl, f8, st8, hrw8, hpp8, he8, hf8, hl8⟩
          refine ⟨_, rfl, _, rfl, st, c, _, rfl, st8, small9000 (by omega) (by omega), fun r6 H9 _ _ fr9 st9 => ?_⟩
          have hrw9 : H9 rw_ = some (.lst (natV l)) := fr9 _ _ (ne_st st8 hrw8 notSt_nats) hrw8
          have hpp9 : H9 pp = some (.lst xs) := fr9 _ _ (ne_st st8 hpp8 (notSt_pairs he8)) hpp8
          have he9 := each_keep (keep_fr fr9 st8) he8
          refine ⟨rfl, ?_⟩
          refine ⟨fun σ' H' => ∃ k : Bool, σ' = [some (.ref st), some (.int m), some (.int n), some (.int my), some (.bl ck), some (.int (2 + r5)), some (.ref rw_), some (.ref pp), some (.int (0 + (i : Int))), some (.int (0 + (j : Int))), some (.bl k)] ∧ H' = H9, ?_, ?_⟩
          · cases ck with
            | true =>
              refine ⟨_, rfl, _, rfl, iteT ?_⟩
              refine ⟨_, rfl, _, rfl, _, _, rfl, rfl, _, rfl, ite2 (fun _ => ?_) (fun _ => ?_)⟩
              · refine ⟨_, rfl, _, rfl, _, rfl, _, _, rfl, rfl, _, _, rfl, rfl, _, rfl, ite2 (fun _ => ?_) (fun _ => ?_)⟩
                · exact ⟨_, rfl, _, rfl, _, rfl, _, rfl, _, _, rfl, rfl, _, _, rfl, rfl, rfl, _, rfl, rfl⟩
                · refine ⟨_, rfl, _, rfl, iteT ?_⟩
                  refine ⟨_, rfl, rfl, _, rfl, ite2 (fun _ => ?_) (fun _ => ?_)⟩
                  · refine ⟨_, rfl, _, rfl, ite2 (fun _ => ?_) (fun _ => ?_)⟩
                    · exact ⟨_, rfl, _, rfl, _, _, rfl, rfl, _, rfl, rfl⟩
                    · exact ⟨_, rfl, rfl⟩
                  · refine ⟨_, rfl, _, rfl, iteT ?_⟩
                    refine ⟨_, rfl, _, rfl, ite2 (fun _ => ?_) (fun _ => ?_)⟩
                    · refine ⟨_, rfl, _, rfl, _, _, rfl, rfl, _, rfl, ite2 (fun _ => ?_) (fun _ => ?_)⟩
                      · refine ⟨_, rfl, _, rfl, _, _, rfl, rfl, rfl, _, rfl, ite2 (fun _ => ?_) (fun _ => ?_)⟩
                        · exact ⟨_, rfl, _, rfl, _, rfl, _, _, rfl, rfl, _, _, rfl, rfl, _, rfl, rfl⟩
                        · exact ⟨_, rfl, rfl⟩
                      · exact ⟨_, rfl, rfl⟩
                    · exact ⟨_, rfl, rfl⟩
              · refine ⟨_, rfl, _, rfl, iteT ?_⟩
                refine ⟨_, rfl, rfl, _, rfl, ite2 (fun _ => ?_) (fun _ => ?_)⟩
                · refine ⟨_, rfl, _, rfl, ite2 (fun _ => ?_) (fun _ => ?_)⟩
                  · exact ⟨_, rfl, _, rfl, _, _, rfl, rfl, _, rfl, rfl⟩
                  · exact ⟨_, rfl, rfl⟩
                · refine ⟨_, rfl, _, rfl, iteT ?_⟩
                  refine ⟨_, rfl, _, rfl, ite2 (fun _ => ?_) (fun _ => ?_)⟩
                  · refine ⟨_, rfl, _, rfl, _, _, rfl, rfl, _, rfl, ite2 (fun _ => ?_) (fun _ => ?_)⟩
                    · refine ⟨_, rfl, _, rfl, _, _, rfl, rfl, rfl, _, rfl, ite2 (fun _ => ?_) (fun _ => ?_)⟩
                      · exact ⟨_, rfl, _, rfl, _, rfl, _, _, rfl, rfl, _, _, rfl, rfl, _, rfl, rfl⟩
                      · exact ⟨_, rfl, rfl⟩
                    · exact ⟨_, rfl, rfl⟩
                  · exact ⟨_, rfl, rfl⟩
            | false =>
              refine ⟨_, rfl, _, rfl, iteF (iteF ?_)⟩
              refine ⟨_, rfl, _, rfl, iteF (iteF ?_)⟩
              refine ⟨_, rfl, _, rfl, iteF ?_⟩
              exact ⟨_, rfl, rfl⟩
          · rintro σ' H' ⟨k, rfl, rfl⟩
            refine ⟨_, rfl, _, rfl, ite2 (fun c3 => ?_) (fun c3 => ?_)⟩
            · have hjl : j < l.length := by omega
              have hil : i < l.length := by omega
              have e1 := List.getElem?_eq_getElem hjl
              have e2 := List.getElem?_eq_getElem hil
              refine ⟨_, rfl, .inl ⟨rfl, _, SqL.of hpp9⟩, _, rfl, _, rfl, _, _, _, _, rfl, rfl, SqL.of hrw9, at_zero (natV_get e1), _, rfl, _, rfl, _, _, _, _, rfl, rfl, SqL.of hrw9, at_zero (natV_get e2), (by show 2 ≤ sizeLine; decide), fun t nt => ?_⟩
              have npt : pp ≠ t := ne_of_none hpp9 nt
              have nrt : rw_ ≠ t := ne_of_none hrw9 nt
              have hpt : (upd H' t (.tup [.int (l[j] : Int), .int (l[i] : Int)])) pp = some (.lst xs) := by rw [upd_ne npt]; exact hpp9
              have hi16 : i * 16 ≤ 16 * 16 := Nat.mul_le_mul_right _ (by omega)
              refine ⟨_, _, _, rfl, rfl, hpt, size_lt (by rw [he9.1]; omega), ?_⟩
              have f9 := f8.trans fr9
              refine ⟨xs ++ [.ref t], ps ++ [((l[j] : Int), (l[i] : Int))], _, _, rfl, (f9.trans (Fr.of (same_new nt))).mut hpp0, hS.mut hpp0 (st9.new nt), by rw [upd_ne nrp, upd_ne nrt]; exact hrw9, upd_same, ?_, ?_, by rw [List.length_append]; show ps.length + 1 ≤ _; omega⟩
              · exact Each.snoc (each_upd hpt (each_keep (keep_same (same_new nt)) he9)) (PairV.upd hpt ⟨t, rfl, upd_same⟩)
              · intro x hx
                rcases List.mem_append.mp hx with hx | hx
                · exact hf8 x hx
                · rw [List.mem_singleton] at hx
                  exact ⟨j, i, _, _, hj, e1, e2, hx⟩
            · exact ⟨xs, ps, _, _, rfl, f8.trans fr9, st9, hrw9, hpp9, he9, hf8, by omega⟩
        · rintro σ H8 ⟨xs, ps, y9, y10, rfl, f8, st8, hrw8, hpp8, he8, hf8, hl8⟩
          exact ⟨xs, ps, _, _, _, rfl, f8, st8, hrw8, hpp8, he8, hf8, by omega⟩
      · rintro σ H7 ⟨xs, ps, y8, y9, y10, rfl, f7, st7, hrw7, hpp7, he7, hf7, hl7⟩
        have hn16 : n * 16 ≤ 16 * 16 := Nat.mul_le_mul_right _ (by omega)
        have hin : InR n ps := fun p hp => by
          obtain ⟨i, j, x, y, _, h1, h2, rfl⟩ := hf7 p hp
          have k1 := llt x (List.mem_of_getElem? h1)
          have k2 := llt y (List.mem_of_getElem? h2)
          exact ⟨⟨by omega, by omega⟩, by omega, by omega⟩
        have nps := ne_st st7 hpp7 (notSt_pairs he7)
        refine ⟨_, rfl, _, rfl, _, rfl, st, c, pp, xs, rfl, st7, hpp7, nps, by rw [he7.1]; omega, fun l2 ys2 H8 pm2 nl2 hl2 fr8 st8 => ?_⟩
        obtain ⟨qs, k1, k2⟩ := Each.perm pm2 he7
        have kp8 := keep_fr fr8 st7
        refine ⟨_, rfl, _, rfl, n, pp, ps, rfl, by omega, ⟨xs, kp8 _ _ (notSt_pairs he7) hpp7, each_keep kp8 he7⟩, hin, fun rr H9 sm9 hrows => ?_⟩
        refine ⟨by show 3 ≤ sizeLine; decide, fun tt ntt => ?_⟩
        have sm10 := sm9.trans (same_new (o := .tup [.int n, .ref l2, .ref rr]) ntt)
        have kp10 := keep_same sm10
        exact q tt l2 rr n ps qs _ hnm ((f7.trans fr8).trans (Fr.of sm10)) (st8.same sm10) upd_same ⟨ys2, sm10 _ _ hl2, each_keep kp10 (each_keep kp8 k1)⟩ k2 (hrows.keep (keep_same (same_new ntt))) hin (by omega) (Fwd.rises lnd hf7)
end
end Few
set_option maxHeartbeats 4000000
namespace Few
open PySem PySem.Spec PyProof.Rows L2
theorem Each.take {α : Type} {R : V → α → Prop} {xs : List V} {ys : List α} (h : Each R xs ys) (k : Nat) : Each R (xs.take k) (ys.take k) := by
  refine ⟨by rw [List.length_take, List.length_take, h.1], fun i x hx => ?_⟩
  rw [List.getElem?_take] at hx ⊢
  split at hx
  · rename_i hk
    rw [if_pos hk]
    exact h.2 i x hx
  · cases hx
theorem Each.drop {α : Type} {R : V → α → Prop} {xs : List V} {ys : List α} (h : Each R xs ys) (k : Nat) : Each R (xs.drop k) (ys.drop k) := by
  refine ⟨by rw [List.length_drop, List.length_drop, h.1], fun i x hx => ?_⟩
  rw [List.getElem?_drop] at hx ⊢
  exact h.2 _ x hx
theorem Each.ins {α : Type} {R : V → α → Prop} {xs : List V} {ys : List α} {x : V} {y : α} (h : Each R xs ys) (r : R x y) (k : Nat) : Each R (xs.take k ++ [x] ++ xs.drop k) (ys.take k ++ [y] ++ ys.drop k) :=
  ((h.take k).snoc r).append (h.drop k)
theorem InR.take {n : Nat} {ps : List (Int × Int)} (h : InR n ps) (k : Nat) : InR n (ps.take k) := fun x hx => h x (List.mem_of_mem_take hx)
theorem InR.ins {n : Nat} {ps : List (Int × Int)} {p : Int × Int} (h : InR n ps) (hp : (0 ≤ p.1 ∧ p.1 < n) ∧ 0 ≤ p.2 ∧ p.2 < n) (k : Nat) : InR n (ps.take k ++ [p] ++ ps.drop k) := fun x hx => by
  rcases List.mem_append.mp hx with hx | hx
  · rcases List.mem_append.mp hx with hx | hx
    · exact h x (List.mem_of_mem_take hx)
    · rw [List.mem_singleton] at hx; rw [hx]; exact hp
  · exact h x (List.mem_of_mem_drop hx)
theorem cut_to (xs : List V) (k : Nat) : cutV xs none (some (k : Int)) = xs.take k := by
  unfold cutV
  rw [HT.sIx_none, show HT.sIx xs.length xs.length (some (k : Int)) = min k xs.length from HT.sIx_nat _ _ k, Nat.sub_zero, List.drop_zero]
  by_cases h : k ≤ xs.length
  · rw [Nat.min_eq_left h]
  · rw [Nat.min_eq_right (by omega), List.take_of_length_le (Nat.le_refl _), List.take_of_length_le (by omega)]
theorem cut_int (xs : List V) {z : Int} (h : 0 ≤ z) : cutV xs none (some z) = xs.take z.toNat := by
  obtain ⟨k, rfl⟩ := Int.eq_ofNat_of_zero_le h
  exact cut_to xs k
theorem index_nat : ∀ {ds : List Nat} {x : Nat}, x ∈ ds → ∃ j : Nat, ds[j]? = some x ∧ ∀ m : Nat, m < j → ds[m]? ≠ some x
  | [], x, h => by simp at h
  | a :: ds, x, h => by
    by_cases e : a = x
    · exact ⟨0, by rw [e] <;> rfl, fun m hm => by omega⟩
    · obtain ⟨j, h1, h2⟩ := index_nat (ds := ds) (x := x) ((List.mem_cons.mp h).resolve_left fun z => e z.symm)
      refine ⟨j + 1, h1, fun m hm => ?_⟩
      cases m with
      | zero => exact fun z => e (Option.some.inj z)
      | succ m => exact h2 m (by omega)
theorem eqV_nat {x y : Nat} : eqV (.int (x : Int)) (.int (y : Int)) = decide (x = y) := by
  show ((x : Int) == (y : Int)) = _
  by_cases h : x = y
  · rw [h, decide_eq_true rfl]; simp
  · rw [decide_eq_false h]
    simp only [beq_eq_false_iff_ne]
    omega
theorem idx_eq {x : Nat} : eqV (.int (x : Int)) (.int (x : Int)) = true := by rw [eqV_nat, decide_eq_true rfl]
theorem idx_none {ds : List Nat} {x j : Nat} (h : ∀ m : Nat, m < j → ds[m]? ≠ some x) (m : Nat) (z' : V) (hm : m < j) (hz : (natV ds)[m]? = some z') : eqV z' (.int (x : Int)) = false := by
  obtain ⟨y, k1, rfl⟩ := natV_of hz
  rw [eqV_nat, decide_eq_false]
  intro e
  rw [e] at k1
  exact h m hm k1
/-- the state between the steps: pairs at l -/
structure TpJ (H0 H : Hp) (st c f : Addr) (fs : List Nat) (n N : Nat) (l : Addr) (xs : List V) (ps : List (Int × Int)) : Prop where
  h0 : H0 l = none
  nf : l ≠ f
  at_ : H l = some (.lst xs)
  ea : Each (PairV H) xs ps
  inr : InR n ps
  len : ps.length ≤ N
  fr : Fr st H0 H
  st_ : StoreAt H st c
  fi : H f = some (.lst (natV fs))
section
variable {H0 H H' : Hp} {st c f : Addr} {fs : List Nat} {n N : Nat} {l : Addr} {xs : List V} {ps : List (Int × Int)}
theorem TpJ.go (j : TpJ H0 H st c f fs n N l xs ps) (h : Fr st H H') (s : StoreAt H' st c) : TpJ H0 H' st c f fs n N l xs ps :=
  ⟨j.h0, j.nf, h _ _ (ne_st j.st_ j.at_ (notSt_pairs j.ea)) j.at_, each_keep (keep_fr h j.st_) j.ea, j.inr, j.len, j.fr.trans h, s, h _ _ (ne_st j.st_ j.fi notSt_nats) j.fi⟩
theorem TpJ.same (j : TpJ H0 H st c f fs n N l xs ps) (h : Same H H') : TpJ H0 H' st c f fs n N l xs ps := j.go (Fr.of h) (j.st_.same h)
theorem TpJ.more (j : TpJ H0 H st c f fs n N l xs ps) {N' : Nat} (h : N ≤ N') : TpJ H0 H st c f fs n N' l xs ps := ⟨j.h0, j.nf, j.at_, j.ea, j.inr, Nat.le_trans j.len h, j.fr, j.st_, j.fi⟩
theorem TpJ.nls (j : TpJ H0 H st c f fs n N l xs ps) : l ≠ st := ne_st j.st_ j.at_ (notSt_pairs j.ea)
theorem TpJ.free (j : TpJ H0 H st c f fs n N l xs ps) {a : Addr} (h : H a = none) : H0 a = none := by
  cases e : H0 a with
  | none => rfl
  | some o =>
    have := j.fr a o (ne_new j.st_ h) e
    rw [h] at this; cases this
/-- another list at a new place -/
theorem TpJ.newl (j : TpJ H0 H st c f fs n N l xs ps) {l2 : Addr} {ys : List V} {qs : List (Int × Int)} {N' : Nat} (h2 : H l2 = none) (e : Each (PairV H) ys qs) (i : InR n qs) (hl : qs.length ≤ N') : TpJ H0 (upd H l2 (.lst ys)) st c f fs n N' l2 ys qs :=
  have s : Same H (upd H l2 (.lst ys)) := same_new h2
  ⟨j.free h2, (fun z => by rw [z, j.fi] at h2; cases h2), upd_same, each_keep (keep_same s) e, i, hl, j.fr.trans (Fr.of s), j.st_.same s, s _ _ j.fi⟩
/-- the list changed where it stands -/
theorem TpJ.mut (j : TpJ H0 H st c f fs n N l xs ps) (hS : StoreAt H0 st c) {ys : List V} {qs : List (Int × Int)} {N' : Nat} (e : Each (PairV H) ys qs) (i : InR n qs) (hl : qs.length ≤ N') : TpJ H0 (upd H l (.lst ys)) st c f fs n N' l ys qs :=
  ⟨j.h0, j.nf, upd_same, each_upd j.at_ e, i, hl, j.fr.mut j.h0, hS.mut j.h0 j.st_, by rw [upd_ne (Ne.symm j.nf)]; exact j.fi⟩
end
def sp_turned_pairs (_ : PySem.W.Frag) : Sp := fun vs H Q _ => ∃ (s c p : Addr) (n : Nat) (M : Tb), vs = [.ref s, .ref p] ∧ StoreAt H s c ∧ RowsAt H p n M ∧ n ≤ 16 ∧ Rises n M ∧
  ∀ (l : Addr) (ps : List (Int × Int)) (H' : Hp), Fr s H H' → StoreAt H' s c → H l = none → PairsAt H' l ps → InR n ps → ps.length ≤ 5000 → Q (.ref l) H'
section
variable {P : Program} {w : World} {K : PySem.W.Frag} {mg : Str → Option Value} {base : Heap}
abbrev s_turned_pairs : Stmt := topS 42
theorem sc_turned_pairs : FnScope ["store", "rows", "size", "first", "last", "sort", "pairs", "at", "a", "b", "line_pairs", "one", "mates", "two"] ["store", "rows"] (defScope s_turned_pairs) := ⟨rfl, rfl, rfl, by decide +kernel, rfl, by decide +kernel, by decide +kernel⟩
theorem ok_turned_pairs {f : Addr} {fd : FuncData} {f_line : Addr} {fd_line : FuncData} {f_take : Addr} {fd_take : FuncData} {f_mixed : Addr} {fd_mixed : FuncData} {f_pick : Addr} {fd_pick : FuncData} {f_line_pairs : Addr} {fd_line_pairs : FuncData} {f_joined : Addr} {fd_joined : FuncData} (F : Fun K "_law_turned_pairs" "_law_turned_pairs" s_turned_pairs f fd) (T : Blt mg) (C_line : Cal K mg "_law_line" f_line fd_line ["store", "rows"]) (G_line : FnOk P w K mg base CX0 2 f_line fd_line ["store", "rows"] (sp_line K)) (C_take : Cal K mg "_law_take" f_take fd_take ["store", "many"]) (G_take : FnOk P w K mg base CX0 1 f_take fd_take ["store", "many"] (sp_take K)) (C_mixed : Cal K mg "_law_mixed" f_mixed fd_mixed ["store", "items"]) (G_mixed : FnOk P w K mg base CX0 2 f_mixed fd_mixed ["store", "items"] (sp_mixed K)) (C_pick : Cal K mg "_law_pick" f_pick fd_pick ["store", "items"]) (G_pick : FnOk P w K mg base CX0 2 f_pick fd_pick ["store", "items"] (sp_pick K)) (C_line_pairs : Cal K mg "_law_line_pairs" f_line_pairs fd_line_pairs ["rows", "line"]) (G_line_pairs : FnOk P w K mg base CX0 2 f_line_pairs fd_line_pairs ["rows", "line"] (sp_line_pairs K)) (C_joined : Cal K mg "_law_joined" f_joined fd_joined ["rows", "one", "two"]) (G_joined : FnOk P w K mg base CX0 1 f_joined fd_joined ["rows", "one", "two"] (sp_joined K)) : FnOk P w K mg base CX0 3 f fd ["store", "rows"] (sp_turned_pairs K) := by
  refine F.ok sc_turned_pairs (fun vs H Q E h => ?_) (fun cdv A outer s H vs Q E hr h => ?_)
  · obtain ⟨_, _, _, _, _, rfl, _⟩ := h
    rfl
  · obtain ⟨st, c, p, n, M, rfl, hS, hR, hn, hri, q⟩ := h
    refine ⟨_, (pss_cons (ps_set (i := 2) sc_turned_pairs.nd rfl (Or.inr rfl) (pe_callB (lenK K) (by rfl) T.len PySem.boot_len (pa_cons (pv 1) pa_nil)))
    (pss_cons (ps_set (i := 3) sc_turned_pairs.nd rfl (Or.inr rfl) (pe_call G_line (hr.mono (by decide)) (by rfl) C_line.g C_line.kp C_line.b .nil pass0 (pa_cons (pv 0) (pa_cons (pv 1) pa_nil))))
    (pss_cons (ps_set (i := 4) sc_turned_pairs.nd rfl (Or.inr rfl) (pe_call G_line (hr.mono (by decide)) (by rfl) C_line.g C_line.kp C_line.b .nil pass0 (pa_cons (pv 0) (pa_cons (pv 1) pa_nil))))
    (pss_cons (ps_set (i := 5) sc_turned_pairs.nd rfl (Or.inl rfl) (pe_call G_take (hr.mono (by decide)) (by rfl) C_take.g C_take.kp C_take.b .nil pass0 (pa_cons (pv 0) (pa_cons pe_int pa_nil))))
    (pss_cons (ps_set (i := 6) sc_turned_pairs.nd rfl (Or.inl rfl) (pe_lst pa_nil))
    (pss_cons (ps_for PassesOwn.never rfl (pi_range1 rfl T.range (pa_cons (pv 2) pa_nil)) (pg_name (i := 7) sc_turned_pairs.nd rfl (Or.inr rfl))
      (pss_one (ps_expr (pe_bm PySem.F.plainAttrs_list PySem.F.slot_list_extend PySem.F.type_list_extend mt_extend (pv 6) (pa_cons (pe_lc (own := [("a", 8)]) (g := gName 8) rfl sc_turned_pairs.nd (pi_list (pe_slice (slL K) (pv 3) po_none (po_some (pv 7)))) (blkOk_by (N := ["store", "rows", "size", "first", "last", "sort", "pairs", "at", "a", "b", "line_pairs", "one", "mates", "two"]) (sc := defScope s_turned_pairs) (by decide +kernel)) (fun _ _ _ _ _ => (pg_name (i := 8) sc_turned_pairs.nd rfl (Or.inl rfl))) (fun _ _ _ _ _ => (pts_one (pt_cmpR op_gt (bmK K PySem.F.plainAttrs_list PySem.F.slot_list_index PySem.F.type_list_index (indexK K) (pv 4) (pa_cons (pv 8) pa_nil)) (bmK K PySem.F.plainAttrs_list PySem.F.slot_list_index PySem.F.type_list_index (indexK K) (pv 4) (pa_cons (pe_ix (ixL K) (pv 3) (pv 7) (fun _ _ => rfl)) pa_nil)) (nomark _)))) (fun _ _ _ _ _ => (pe_tup (pa_cons (pv 8) (pa_cons (pe_ix (ixL K) (pv 3) (pv 7) (fun _ _ => rfl)) pa_nil))))) pa_nil)))))
    (pss_cons (ps_set (i := 6) sc_turned_pairs.nd rfl (Or.inl rfl) (pe_call G_mixed (hr.mono (by decide)) (by rfl) C_mixed.g C_mixed.kp C_mixed.b .nil pass0 (pa_cons (pv 0) (pa_cons (pv 6) pa_nil))))
    (C8.pss_cut (ps_if (pt_cmpR op_eq (pv 5) pe_int (nomark _))
      (pss_one (ps_set (i := 6) sc_turned_pairs.nd rfl (Or.inl rfl) (pe_slice (slL K) (pv 6) po_none (po_some (pe_call G_take (hr.mono (by decide)) (by rfl) C_take.g C_take.kp C_take.b .nil pass0 (pa_cons (pv 0) (pa_cons pe_int pa_nil)))))))
      pss_nil)
    (C8.pss_cut (ps_if (PW.pt (pw_and (pt_cmpR op_eq (pv 5) pe_int (nomark _)) (pw_and1 (pt_cmpR op_gt (pe_callB (lenK K) (by rfl) T.len PySem.boot_len (pa_cons (pv 6) pa_nil)) pe_int (nomark _)))))
      (pss_cons (ps_asg (pe_call G_pick (hr.mono (by decide)) (by rfl) C_pick.g C_pick.kp C_pick.b .nil pass0 (pa_cons (pv 0) (pa_cons (pv 6) pa_nil))) (pg_tup rfl (pgs_cons (pg_name (i := 8) sc_turned_pairs.nd rfl (Or.inl rfl)) (pgs_cons (pg_name (i := 9) sc_turned_pairs.nd rfl (Or.inl rfl)) pgs_nil))))
        (pss_one (ps_expr (pe_bm PySem.F.plainAttrs_list PySem.F.slot_list_insert PySem.F.type_list_insert mt_insert (pv 6) (pa_cons (pe_call G_take (hr.mono (by decide)) (by rfl) C_take.g C_take.kp C_take.b .nil pass0 (pa_cons (pv 0) (pa_cons (pe_op op_add (pe_callB (lenK K) (by rfl) T.len PySem.boot_len (pa_cons (pv 6) pa_nil)) pe_int) pa_nil))) (pa_cons (pe_tup (pa_cons (pv 9) (pa_cons (pv 8) pa_nil))) pa_nil))))))
      pss_nil)
    (C8.pss_cut (ps_if (pt_cmpR op_eq (pv 5) pe_int (nomark _))
      (pss_cons (ps_set (i := 10) sc_turned_pairs.nd rfl (Or.inl rfl) (pe_call G_line_pairs (hr.mono (by decide)) (by rfl) C_line_pairs.g C_line_pairs.kp C_line_pairs.b .nil pass0 (pa_cons (pv 1) (pa_cons (pv 3) pa_nil))))
        (pss_one (ps_for PassesOwn.never rfl (pi_list (pv 10)) (pg_name (i := 11) sc_turned_pairs.nd rfl (Or.inr rfl))
          (pss_cons (ps_setLc (i := 12) (own := [("two", 13)]) (g := gName 13) rfl sc_turned_pairs.nd rfl rfl (sw_true rfl rfl rfl (by decide +kernel)) (pi_list (pv 10)) (blkOk_by (N := ["store", "rows", "size", "first", "last", "sort", "pairs", "at", "a", "b", "line_pairs", "one", "mates", "two"]) (sc := defScope s_turned_pairs) (by decide +kernel)) (fun _ _ _ _ _ => (pg_name (i := 13) sc_turned_pairs.nd rfl (Or.inl rfl))) (fun _ _ _ _ _ => (pts_one (pt_val (pe_call G_joined (hr.mono (by decide)) (by rfl) C_joined.g C_joined.kp C_joined.b .nil pass0 (pa_cons (pv 1) (pa_cons (pv 11) (pa_cons (pv 13) pa_nil))))))) (fun _ _ _ _ _ => (pv 13)))
            (pss_one (ps_if (pt_cmpR op_gt (pe_callB (lenK K) (by rfl) T.len PySem.boot_len (pa_cons (pv 12) pa_nil)) pe_int (nomark _))
              (pss_one (ps_set (i := 6) sc_turned_pairs.nd rfl (Or.inl rfl) (pe_lst (pa_cons (pv 11) (pa_cons (pe_call G_pick (hr.mono (by decide)) (by rfl) C_pick.g C_pick.kp C_pick.b .nil pass0 (pa_cons (pv 0) (pa_cons (pv 12) pa_nil))) pa_nil)))))
              pss_nil))))))
      pss_nil)
    (C8.pss_cut (ps_if (PW.pt (pw_and (pt_cmpR op_gt (pv 2) pe_int (nomark _)) (pw_and1 (pt_cmpR op_eq (pv 5) pe_int (nomark _)))))
      (pss_one (ps_expr (pe_bm PySem.F.plainAttrs_list PySem.F.slot_list_insert PySem.F.type_list_insert mt_insert (pv 6) (pa_cons (pe_call G_take (hr.mono (by decide)) (by rfl) C_take.g C_take.kp C_take.b .nil pass0 (pa_cons (pv 0) (pa_cons (pe_op op_add (pe_callB (lenK K) (by rfl) T.len PySem.boot_len (pa_cons (pv 6) pa_nil)) pe_int) pa_nil))) (pa_cons (pe_tup (pa_cons (pe_call G_take (hr.mono (by decide)) (by rfl) C_take.g C_take.kp C_take.b .nil pass0 (pa_cons (pv 0) (pa_cons (pv 2) pa_nil))) (pa_cons (pe_call G_take (hr.mono (by decide)) (by rfl) C_take.g C_take.kp C_take.b .nil pass0 (pa_cons (pv 0) (pa_cons (pv 2) pa_nil))) pa_nil))) pa_nil)))))
      pss_nil)
    (C8.pss_cut (ps_if (PW.pt (pw_and (pt_cmpR op_gt (pv 2) pe_int (nomark _)) (pw_and1 (pt_cmpR op_eq (pv 5) pe_int (nomark _)))))
      (pss_one (ps_setLc (i := 6) (own := [("at", 7)]) (g := gName 7) (tt := tYes) rfl sc_turned_pairs.nd rfl rfl (sw_true rfl rfl rfl (by decide +kernel)) (pi_range1 rfl T.range (pa_cons (pe_call G_take (hr.mono (by decide)) (by rfl) C_take.g C_take.kp C_take.b .nil pass0 (pa_cons (pv 0) (pa_cons pe_int pa_nil))) pa_nil)) (blkOk_by (N := ["store", "rows", "size", "first", "last", "sort", "pairs", "at", "a", "b", "line_pairs", "one", "mates", "two"]) (sc := defScope s_turned_pairs) (by decide +kernel)) (fun _ _ _ _ _ => (pg_name (i := 7) sc_turned_pairs.nd rfl (Or.inl rfl))) (fun _ _ _ _ _ => pts_nil) (fun _ _ _ _ _ => (pe_tup (pa_cons (pe_call G_take (hr.mono (by decide)) (by rfl) C_take.g C_take.kp C_take.b .nil pass0 (pa_cons (pv 0) (pa_cons (pv 2) pa_nil))) (pa_cons (pe_call G_take (hr.mono (by decide)) (by rfl) C_take.g C_take.kp C_take.b .nil pass0 (pa_cons (pv 0) (pa_cons (pv 2) pa_nil))) pa_nil))))))
      pss_nil)
    (C8.pss_cut (ps_if (pt_cmpR op_eq (pv 5) pe_int (nomark _))
      (pss_one (ps_set (i := 6) sc_turned_pairs.nd rfl (Or.inl rfl) (pe_slice (slL K) (pe_op op_rep (pv 6) pe_int) po_none (po_some pe_int))))
      pss_nil)
    (pss_one (ps_ret (pv 6)))))))))))))))), ?_⟩
    obtain ⟨ns, hns, hnl⟩ := hR.len
    refine ⟨_, rfl, _, _, rfl, .inl (SqL.of hns), ?_⟩
    rw [hnl]
    -- first, last
    refine ⟨_, rfl, _, rfl, st, c, p, n, M, rfl, hS, hR, by omega, hri, fun f fs H1 fr1 st1 nf hf Lf => ?_⟩
    have hR1 := hR.keep (keep_fr fr1 hS)
    refine ⟨_, rfl, _, rfl, st, c, p, n, M, rfl, st1, hR1, by omega, hri, fun g gs H2 fr2 st2 ng hg Lg => ?_⟩
    have hR2 := hR1.keep (keep_fr fr2 st1)
    have hf2 : H2 f = some (.lst (natV fs)) := fr2 _ _ (ne_st st1 hf notSt_nats) hf
    have hg2 : H2 g = some (.lst (natV gs)) := hg
    have hfn : ∀ d ∈ fs, d < n := fun d hd => List.mem_range.mp (Lf.perm.mem_iff.mp hd)
    have hfl : fs.length = n := by rw [Lf.perm.length_eq, List.length_range]
    have hfg : ∀ d ∈ fs, d ∈ gs := fun d hd => Lg.perm.mem_iff.mpr (Lf.perm.mem_iff.mp hd)
    refine ⟨_, rfl, st, c, _, rfl, st2, small9000 (by decide) (by decide), fun srt H3 _ _ fr3 st3 => ?_⟩
    have hR3 := hR2.keep (keep_fr fr3 st2)
    have hf3 : H3 f = some (.lst (natV fs)) := fr3 _ _ (ne_st st2 hf2 notSt_nats) hf2
    have hg3 : H3 g = some (.lst (natV gs)) := fr3 _ _ (ne_st st2 hg2 notSt_nats) hg2
    have f3 := (fr1.trans fr2).trans fr3
    refine ⟨(by show 0 ≤ sizeLine; decide), fun o no => ?_⟩
    have frn : ∀ {a : Addr} {H' : Hp}, Fr st H H' → StoreAt H' st c → H' a = none → H a = none := fun {a H'} f s h => by
      cases e : H a with
      | none => rfl
      | some o =>
        have := f a o (ne_new s h) e
        rw [h] at this; cases this
    have ho0 := frn f3 st3 no
    have sN : Same H3 (upd H3 o (.lst [])) := same_new no
    -- for at in range(size)
    refine ⟨_, rfl, _, rfl, (by omega), (by omega), for_range (lo := 0) (n := n) (fun i σ H' => ∃ (y7 : Option V) (xs : List V) (ps : List (Int × Int)), σ = [some (.ref st), some (.ref p), some (.int n), some (.ref f), some (.ref g), some (.int srt), some (.ref o), y7, none, none, none, none, none, none] ∧ Same H3 H' ∧ H' o = some (.lst xs) ∧ Each (PairV H') xs ps ∧ InR n ps ∧ ps.length ≤ i * 16)
      ⟨none, [], [], rfl, sN, upd_same, Each.nil, (fun _ h => by simp at h), by simp⟩ ?_ ?_⟩
    · rintro i σ H4 hi ⟨y7, xs, ps, rfl, sm4, ho4, he4, hin4, hl4⟩
      have hf4 : H4 f = some (.lst (natV fs)) := sm4 _ _ hf3
      have hg4 : H4 g = some (.lst (natV gs)) := sm4 _ _ hg3
      have hif : i < fs.length := by omega
      have ei := List.getElem?_eq_getElem hif
      refine ⟨_, rfl, .inl ⟨rfl, _, SqL.of ho4⟩, ?_⟩
      refine ⟨_, rfl, _, rfl, _, rfl, _, _, rfl, SqL.of hf4, fun cs ncs => ?_⟩
      rw [cut_int _ (show (0 : Int) ≤ 0 + (i : Int) by omega), show (0 + (i : Int)).toNat = i by omega, show List.take i (natV fs) = natV (fs.take i) by unfold natV; rw [List.map_take]]
      have s1 : Same H4 (upd H4 cs (.lst (natV (fs.take i)))) := same_new ncs
      refine ⟨_, rfl, ⟨_, SqL.of upd_same⟩, fun D hD => lc_list (xs := natV (fs.take i)) (fun j H5 => ∃ zs qs, Same (upd H4 cs (.lst (natV (fs.take i)))) H5 ∧ H5 D = some (.lst zs) ∧ Each (PairV H5) zs qs ∧ InR n qs ∧ qs.length ≤ j) ⟨[], [], same_new hD, upd_same, Each.nil, (fun _ h => by simp at h), by simp⟩ (fun j H5 _ h => ?_) ?_ ?_⟩
      · obtain ⟨_, _, h, _⟩ := h
        exact SqL.of (h _ _ upd_same)
      · rintro j x H5 hx ⟨zs, qs, sm5, hd, hz, hq, hql⟩
        obtain ⟨r, hr1, rfl⟩ := natV_of hx
        have hrf : r ∈ fs := List.mem_of_mem_take (List.mem_of_getElem? hr1)
        have hrn : r < n := hfn _ hrf
        have hj : j < 16 := by
          have := (List.getElem?_eq_some_iff.mp hr1).1
          rw [List.length_take] at this
          omega
        have hf5 : H5 f = some (.lst (natV fs)) := sm5 _ _ (s1 _ _ hf4)
        have hg5 : H5 g = some (.lst (natV gs)) := sm5 _ _ (s1 _ _ hg4)
        have hin1 : fs[i] < n := hfn _ (List.getElem_mem hif)
        refine ⟨rfl, ?_⟩
        obtain ⟨j1, i1, i1'⟩ := index_nat (hfg r hrf)
        obtain ⟨j2, i2, i2'⟩ := index_nat (hfg _ (List.getElem_mem hif))
        refine ⟨_, rfl, .inl ⟨rfl, _, SqL.of hg5⟩, _, rfl, g, natV gs, .int r, j1, .int r, rfl, rfl, SqL.of hg5, rfl, natV_flat gs, natV_get i1, idx_eq, idx_none i1', ?_⟩
        refine ⟨_, rfl, .inl ⟨rfl, _, SqL.of hg5⟩, _, rfl, _, rfl, _, _, _, _, rfl, rfl, SqL.of hf5, at_zero (natV_get ei), g, natV gs, _, j2, _, rfl, rfl, SqL.of hg5, rfl, natV_flat gs, natV_get i2, idx_eq, idx_none i2', ?_⟩
        refine ⟨_, _, rfl, rfl, _, rfl, ite2 (fun c2 => ?_) (fun c2 => ?_)⟩
        · refine ⟨_, rfl, _, rfl, _, rfl, _, _, _, _, rfl, rfl, SqL.of hf5, at_zero (natV_get ei), (by show 2 ≤ sizeLine; decide), fun t nt => ?_⟩
          have nDt : D ≠ t := ne_of_none hd nt
          refine ⟨zs, by rw [upd_ne nDt]; exact hd, size_lt (by rw [hz.1]; omega), zs ++ [.ref t], qs ++ [((r : Int), (fs[i] : Int))], same_mut (sm5.trans (same_new nt)) hD, upd_same, ?_, ?_, by rw [List.length_append]; exact Nat.add_le_add_right hql 1⟩
          · exact Each.snoc (each_upd (by rw [upd_ne nDt]; exact hd) (each_keep (keep_same (same_new nt)) hz)) (PairV.upd (by rw [upd_ne nDt]; exact hd) ⟨t, rfl, upd_same⟩)
          · exact hq.append fun x hx => by
              rw [List.mem_singleton] at hx
              rw [hx]
              exact ⟨⟨by omega, by omega⟩, by omega, by omega⟩
        · exact ⟨zs, qs, sm5, hd, hz, hq, by omega⟩
      · rintro H5 ⟨zs, qs, sm5, hd, hz, hq, hql⟩
        rw [natV_len, List.length_take] at hql
        have ho5 : H5 o = some (.lst xs) := sm5 _ _ (s1 _ _ ho4)
        have hi16 : i * 16 ≤ 16 * 16 := Nat.mul_le_mul_right _ (by omega)
        refine ⟨_, _, _, _, rfl, rfl, ho5, hd, size_le (by rw [he4.1, hz.1]; omega), ?_⟩
        refine ⟨_, _, ps ++ qs, rfl, same_mut (sm4.trans (s1.trans sm5)) no, upd_same, ?_, hin4.append hq, by rw [List.length_append]; omega⟩
        exact Each.append (each_upd ho5 (each_keep (keep_same (s1.trans sm5)) he4)) (each_upd ho5 hz)
    · rintro σ H4 ⟨y7, xs, ps, rfl, sm4, ho4, he4, hin4, hl4⟩
      have hn16 : n * 16 ≤ 16 * 16 := Nat.mul_le_mul_right _ hn
      have st4 := st3.same sm4
      have no_ : o ≠ st := ne_st st4 ho4 (notSt_pairs he4)
      -- pairs = _law_mixed(store, pairs)
      refine ⟨_, rfl, _, rfl, st, c, o, xs, rfl, st4, ho4, no_, by rw [he4.1]; omega, fun l ys H5 pm nl hl fr5 st5 => ?_⟩
      obtain ⟨qs, k1, k2⟩ := Each.perm pm he4
      have hR5 := (hR3.keep (keep_same sm4)).keep (keep_fr fr5 st4)
      have hf5 : H5 f = some (.lst (natV fs)) := fr5 _ _ (ne_st st4 (sm4 _ _ hf3) notSt_nats) (sm4 _ _ hf3)
      have J5 : TpJ H H5 st c f fs n 256 l ys qs := ⟨frn (f3.trans (Fr.of sm4)) st4 nl, (fun z => by rw [z, sm4 _ _ hf3] at nl; cases nl), hl, each_keep (keep_fr fr5 st4) k1, hin4.perm k2, by rw [k2.length_eq]; omega, (f3.trans (Fr.of sm4)).trans fr5, st5, hf5⟩
      -- if sort == 1
      refine ⟨fun σ' H' => ∃ (l : Addr) (xs : List V) (ps : List (Int × Int)), σ' = [some (.ref st), some (.ref p), some (.int n), some (.ref f), some (.ref g), some (.int srt), some (.ref l), y7, none, none, none, none, none, none] ∧ TpJ H H' st c f fs n 256 l xs ps, ?_, ?_⟩
      · refine ⟨_, rfl, rfl, _, rfl, ite2 (fun c2 => ?_) (fun c2 => ?_)⟩
        · refine ⟨_, rfl, _, rfl, st, c, _, rfl, st5, small9000 (by decide) (by decide), fun r H6 r0 _ fr6 st6 => ?_⟩
          have J6 := J5.go fr6 st6
          refine ⟨_, rfl, _, _, rfl, SqL.of J6.at_, fun l2 nl2 => ?_⟩
          rw [cut_int _ r0]
          exact ⟨_, _, _, rfl, J6.newl nl2 (J6.ea.take _) (J6.inr.take _) (by rw [List.length_take]; have := J6.len; omega)⟩
        · exact ⟨_, _, _, rfl, J5⟩
      · rintro σ' H6 ⟨l, xs, ps, rfl, J6⟩
        -- if sort == 2 and len(pairs) > 0
        refine ⟨fun σ' H' => ∃ (l : Addr) (xs : List V) (ps : List (Int × Int)) (y8 y9 : Option V), σ' = [some (.ref st), some (.ref p), some (.int n), some (.ref f), some (.ref g), some (.int srt), some (.ref l), y7, y8, y9, none, none, none, none] ∧ TpJ H H' st c f fs n 257 l xs ps, ?_, ?_⟩
        · refine ⟨_, rfl, rfl, _, rfl, ite2 (fun c2 => ?_) (fun c2 => ?_)⟩
          · refine ⟨_, rfl, _, _, rfl, .inl (SqL.of J6.at_), _, _, rfl, rfl, _, rfl, ite2 (fun c3 => ?_) (fun c3 => ?_)⟩
            · have hpos : 0 < xs.length := by
                have : (0 : Int) < (xs.length : Int) := of_decide_eq_true c3
                omega
              have hxl : xs.length ≤ 256 := by rw [J6.ea.1]; exact J6.len
              refine ⟨_, rfl, _, rfl, st, c, l, xs, rfl, J6.st_, J6.at_, J6.nls, List.length_pos_iff.mp hpos, by omega, fun x H7 hx fr7 st7 => ?_⟩
              have J7 := J6.go fr7 st7
              obtain ⟨⟨a, b⟩, hab, t, rfl, ht⟩ := J7.ea.mem hx
              have hr := J7.inr _ hab
              refine ⟨t, _, rfl, SqT.of ht, rfl, _, _, rfl, _, _, rfl, rfl, ?_⟩
              refine ⟨_, rfl, .inl ⟨rfl, _, SqL.of J7.at_⟩, ?_⟩
              refine ⟨_, rfl, _, rfl, _, _, rfl, .inl (SqL.of J7.at_), _, _, rfl, rfl, st, c, _, rfl, st7, small9000 (by omega) (by omega), fun r H8 r0 r1 fr8 st8 => ?_⟩
              have J8 := J7.go fr8 st8
              refine ⟨_, rfl, _, rfl, (by show 2 ≤ sizeLine; decide), fun t2 nt2 => ?_⟩
              have J9 := J8.same (same_new (o := .tup [.int b, .int a]) nt2)
              refine ⟨_, _, _, _, rfl, rfl, J9.at_, size_lt (by omega), r0, by omega, ?_⟩
              exact ⟨_, _, _, _, _, rfl, J9.mut hS (J9.ea.ins (y := (b, a)) ⟨t2, rfl, upd_same⟩ r.toNat) (J9.inr.ins ⟨hr.2, hr.1⟩ _) (by
                have := J9.len
                rw [List.length_append, List.length_append, List.length_take, List.length_drop, List.length_singleton]; omega)⟩
            · exact ⟨_, _, _, _, _, rfl, J6.more (by decide)⟩
          · exact ⟨_, _, _, _, _, rfl, J6.more (by decide)⟩
        · rintro σ' H7 ⟨l, xs, ps, y8, y9, rfl, J7⟩
          have hR7 : RowsAt H7 p n M := hR.keep (keep_fr J7.fr hS)
          -- if sort == 4
          refine ⟨fun σ' H' => ∃ (l : Addr) (xs : List V) (ps : List (Int × Int)) (y10 y11 y12 y13 : Option V), σ' = [some (.ref st), some (.ref p), some (.int n), some (.ref f), some (.ref g), some (.int srt), some (.ref l), y7, y8, y9, y10, y11, y12, y13] ∧ TpJ H H' st c f fs n 257 l xs ps, ?_, ?_⟩
          · refine ⟨_, rfl, rfl, _, rfl, ite2 (fun c2 => ?_) (fun c2 => ?_)⟩
            · refine ⟨_, rfl, _, rfl, p, f, n, M, fs, rfl, hR7, J7.fi, hfn, by omega, fun lp lps H8 sm8 nlp hlp hlpn hlpl => ?_⟩
              obtain ⟨lxs, hlx, hle⟩ := hlp
              have J8 := J7.same sm8
              -- for one in line_pairs
              refine ⟨_, rfl, _, rfl, ⟨_, SqL.of hlx⟩, for_list (xs := lxs) (fun i σ' H' => ∃ (l : Addr) (xs : List V) (ps : List (Int × Int)) (y11 y12 : Option V), σ' = [some (.ref st), some (.ref p), some (.int n), some (.ref f), some (.ref g), some (.int srt), some (.ref l), y7, y8, y9, some (.ref lp), y11, y12, none] ∧ TpJ H H' st c f fs n 257 l xs ps ∧ H' lp = some (.lst lxs) ∧ Each (PairV H') lxs lps)
                ⟨l, xs, ps, _, _, rfl, J8, hlx, hle⟩ (fun i σ' H' _ h => ?_) ?_ ?_⟩
              · obtain ⟨_, _, _, _, _, _, _, h, _⟩ := h
                exact SqL.of h
              · rintro i x σ' H9 hx ⟨l, xs, ps, y11, y12, rfl, J9, hlx9, hle9⟩
                obtain ⟨one, ho1, ho2⟩ := hle9.2 i x hx
                have ho3 := hlpn _ (List.mem_of_getElem? ho1)
                have hR9 : RowsAt H9 p n M := hR.keep (keep_fr J9.fr hS)
                refine ⟨_, rfl, _, rfl, ⟨_, SqL.of hlx9⟩, fun D hD => lc_list (xs := lxs) (fun j Ha => ∃ zs qs, Same H9 Ha ∧ Ha D = some (.lst zs) ∧ Each (PairV Ha) zs qs ∧ InR n qs ∧ qs.length ≤ j) ⟨[], [], same_new hD, upd_same, Each.nil, (fun _ h => by simp at h), by simp⟩ (fun j Ha _ h => ?_) ?_ ?_⟩
                · obtain ⟨_, _, h, _⟩ := h
                  exact SqL.of (h _ _ hlx9)
                · rintro j y Ha hy ⟨zs, qs, sma, hd, hz, hq, hql⟩
                  obtain ⟨two, ht1, ht2⟩ := hle9.2 j y hy
                  have ht3 := hlpn _ (List.mem_of_getElem? ht1)
                  have hj : j < lps.length := (List.getElem?_eq_some_iff.mp ht1).1
                  have kpa := keep_same sma
                  refine ⟨rfl, ?_⟩
                  refine ⟨_, rfl, _, rfl, _, rfl, p, n, M, x, y, one, two, rfl, hR9.keep kpa, ho2.keep kpa, ht2.keep kpa, (fun z hz => by
                    rcases List.mem_cons.mp hz with rfl | hz
                    · exact ho3
                    · rw [List.mem_singleton] at hz; rw [hz]; exact ht3), fun k => ?_⟩
                  refine ⟨_, rfl, ite2 (fun c3 => ?_) (fun c3 => ?_)⟩
                  · refine ⟨_, rfl, zs, hd, size_lt (by rw [hz.1]; omega), zs ++ [y], qs ++ [two], same_mut sma hD, upd_same, Each.snoc (each_upd hd hz) ((ht2.keep kpa).upd hd), hq.append (fun z hz => by rw [List.mem_singleton] at hz; rw [hz]; exact ht3), by rw [List.length_append]; exact Nat.add_le_add_right hql 1⟩
                  · exact ⟨zs, qs, sma, hd, hz, hq, by omega⟩
                · rintro Ha ⟨zs, qs, sma, hd, hz, hq, hql⟩
                  have Ja := J9.same sma
                  have kpa := keep_same sma
                  refine ⟨_, rfl, _, _, rfl, .inl (SqL.of hd), _, _, rfl, rfl, _, rfl, ite2 (fun c3 => ?_) (fun c3 => ?_)⟩
                  · have hpos : 0 < zs.length := by
                      have : (0 : Int) < (zs.length : Int) := of_decide_eq_true c3
                      omega
                    have hzl : zs.length ≤ 10000 := by
                      have := hle9.1
                      rw [hz.1]; omega
                    refine ⟨_, rfl, _, rfl, _, rfl, st, c, D, zs, rfl, Ja.st_, hd, ne_st Ja.st_ hd (notSt_pairs hz), List.length_pos_iff.mp hpos, by omega, fun m Hb hm frb stb => ?_⟩
                    have Jb := Ja.go frb stb
                    have kpb := keep_fr frb Ja.st_
                    refine ⟨(by show 2 ≤ sizeLine; decide), fun l2 nl2 => ?_⟩
                    obtain ⟨mp, hmp1, hmp2⟩ := hz.mem hm
                    have s2 : Same Hb (upd Hb l2 (.lst [x, m])) := same_new nl2
                    refine ⟨l2, [x, m], [one, mp], _, _, rfl, Jb.newl nl2 (Each.cons ((ho2.keep kpa).keep kpb) (Each.cons (hmp2.keep kpb) Each.nil)) (fun z hz => by
                      rcases List.mem_cons.mp hz with rfl | hz
                      · exact ho3
                      · rw [List.mem_singleton] at hz; rw [hz]; exact hq _ hmp1) (by show 2 ≤ 257; decide), ?_, ?_⟩
                    · exact s2 _ _ (kpb _ _ (notSt_pairs hle9) (sma _ _ hlx9))
                    · exact each_keep (keep_same s2) (each_keep kpb (each_keep kpa hle9))
                  · exact ⟨l, xs, ps, _, _, rfl, Ja, sma _ _ hlx9, each_keep kpa hle9⟩
              · rintro σ' H9 ⟨l, xs, ps, y11, y12, rfl, J9, _, _⟩
                exact ⟨l, xs, ps, _, _, _, _, rfl, J9⟩
            · exact ⟨l, xs, ps, _, _, _, _, rfl, J7⟩
          · rintro σ' H8 ⟨l, xs, ps, y10, y11, y12, y13, rfl, J8⟩
            -- if size > 0 and sort == 3
            refine ⟨fun σ' H' => ∃ (l : Addr) (xs : List V) (ps : List (Int × Int)), σ' = [some (.ref st), some (.ref p), some (.int n), some (.ref f), some (.ref g), some (.int srt), some (.ref l), y7, y8, y9, y10, y11, y12, y13] ∧ TpJ H H' st c f fs n 258 l xs ps, ?_, ?_⟩
            · refine ⟨_, rfl, _, _, rfl, rfl, _, rfl, ite2 (fun c2 => ?_) (fun c2 => ?_)⟩
              · have hn0 : 0 < (n : Int) := of_decide_eq_true c2
                refine ⟨_, rfl, rfl, _, rfl, ite2 (fun c3 => ?_) (fun c3 => ?_)⟩
                · have hxl : xs.length ≤ 257 := by rw [J8.ea.1]; exact J8.len
                  refine ⟨_, rfl, .inl ⟨rfl, _, SqL.of J8.at_⟩, ?_⟩
                  refine ⟨_, rfl, _, rfl, _, _, rfl, .inl (SqL.of J8.at_), _, _, rfl, rfl, st, c, _, rfl, J8.st_, small9000 (by omega) (by omega), fun r H9 r0 r1 fr9 st9 => ?_⟩
                  have J9 := J8.go fr9 st9
                  refine ⟨_, rfl, _, rfl, st, c, _, rfl, J9.st_, small9000 (by omega) (by omega), fun a Ha a0 a1 fra sta => ?_⟩
                  have Ja := J9.go fra sta
                  refine ⟨_, rfl, _, rfl, st, c, _, rfl, Ja.st_, small9000 (by omega) (by omega), fun b Hb b0 b1 frb stb => ?_⟩
                  have Jb := Ja.go frb stb
                  refine ⟨(by show 2 ≤ sizeLine; decide), fun t nt => ?_⟩
                  have Jc := Jb.same (same_new (o := .tup [.int a, .int b]) nt)
                  refine ⟨_, _, _, _, rfl, rfl, Jc.at_, size_lt (by omega), r0, by omega, ?_⟩
                  exact ⟨_, _, _, rfl, Jc.mut hS (Jc.ea.ins (y := (a, b)) ⟨t, rfl, upd_same⟩ r.toNat) (Jc.inr.ins ⟨⟨a0, by omega⟩, b0, by omega⟩ _) (by
                    have := Jc.len
                    rw [List.length_append, List.length_append, List.length_take, List.length_drop, List.length_singleton]; omega)⟩
                · exact ⟨_, _, _, rfl, J8.more (by decide)⟩
              · exact ⟨_, _, _, rfl, J8.more (by decide)⟩
            · rintro σ' H9 ⟨l, xs, ps, rfl, J9⟩
              -- if size > 0 and sort == 5
              refine ⟨fun σ' H' => ∃ (l : Addr) (xs : List V) (ps : List (Int × Int)), σ' = [some (.ref st), some (.ref p), some (.int n), some (.ref f), some (.ref g), some (.int srt), some (.ref l), y7, y8, y9, y10, y11, y12, y13] ∧ TpJ H H' st c f fs n 258 l xs ps, ?_, ?_⟩
              · refine ⟨_, rfl, _, _, rfl, rfl, _, rfl, ite2 (fun c2 => ?_) (fun c2 => ?_)⟩
                · have hn0 : 0 < (n : Int) := of_decide_eq_true c2
                  refine ⟨_, rfl, rfl, _, rfl, ite2 (fun c3 => ?_) (fun c3 => ?_)⟩
                  · refine ⟨_, rfl, st, c, _, rfl, J9.st_, small9000 (by decide) (by decide), fun r Ha r0 r1 fra sta => ?_⟩
                    have Ja := J9.go fra sta
                    refine ⟨_, rfl, (by omega), (by omega), fun D hD => lc_range (lo := 0) (n := r.toNat) (fun j Hb => ∃ zs qs, TpJ H Hb st c f fs n 258 D zs qs ∧ qs.length ≤ j) ⟨[], [], Ja.newl hD Each.nil (fun _ h => by simp at h) (by simp), by simp⟩ ?_ ?_⟩
                    · rintro j Hb hj ⟨zs, qs, Jb, hql⟩
                      refine ⟨rfl, ?_⟩
                      refine ⟨_, rfl, _, rfl, st, c, _, rfl, Jb.st_, small9000 (by omega) (by omega), fun a Hc a0 a1 frc stc => ?_⟩
                      have Jc := Jb.go frc stc
                      refine ⟨_, rfl, _, rfl, st, c, _, rfl, Jc.st_, small9000 (by omega) (by omega), fun b Hd b0 b1 frd std => ?_⟩
                      have Jd := Jc.go frd std
                      refine ⟨(by show 2 ≤ sizeLine; decide), fun t nt => ?_⟩
                      have Je := Jd.same (same_new (o := .tup [.int a, .int b]) nt)
                      refine ⟨zs, Je.at_, size_lt (by rw [Je.ea.1]; have := Je.len; omega), zs ++ [.ref t], qs ++ [(a, b)], Je.mut hS (Je.ea.snoc ⟨t, rfl, upd_same⟩) (Je.inr.append (fun z hz => by rw [List.mem_singleton] at hz; rw [hz]; exact ⟨⟨a0, by omega⟩, b0, by omega⟩)) (by rw [List.length_append]; show qs.length + 1 ≤ _; omega), by rw [List.length_append]; exact Nat.add_le_add_right hql 1⟩
                    · rintro Hb ⟨zs, qs, Jb, _⟩
                      exact ⟨_, _, _, rfl, Jb⟩
                  · exact ⟨_, _, _, rfl, J9⟩
                · exact ⟨_, _, _, rfl, J9⟩
              · rintro σ' Ha ⟨l, xs, ps, rfl, Ja⟩
                -- if sort == 6
                refine ⟨fun σ' H' => ∃ (l : Addr) (xs : List V) (ps : List (Int × Int)), σ' = [some (.ref st), some (.ref p), some (.int n), some (.ref f), some (.ref g), some (.int srt), some (.ref l), y7, y8, y9, y10, y11, y12, y13] ∧ TpJ H H' st c f fs n 5000 l xs ps, ?_, ?_⟩
                · refine ⟨_, rfl, rfl, _, rfl, ite2 (fun c2 => ?_) (fun c2 => ?_)⟩
                  · have hxl : xs.length ≤ 258 := by rw [Ja.ea.1]; exact Ja.len
                    refine ⟨_, rfl, _, _, _, rfl, rfl, Ja.at_, (by decide), (by decide), size_le (by show xs.length * 9 ≤ _; omega), fun l1 nl1 => ?_⟩
                    have e9 : (List.replicate (9 : Int).toNat xs).flatten = xs ++ (xs ++ (xs ++ (xs ++ (xs ++ (xs ++ (xs ++ (xs ++ (xs ++ [])))))))) := rfl
                    have Jb := Ja.newl (N' := 258 * 9) nl1 (ys := (List.replicate (9 : Int).toNat xs).flatten) (qs := ps ++ (ps ++ (ps ++ (ps ++ (ps ++ (ps ++ (ps ++ (ps ++ (ps ++ []))))))))) (by
                      rw [e9]
                      have e := Ja.ea
                      exact e.append (e.append (e.append (e.append (e.append (e.append (e.append (e.append (e.append Each.nil))))))))) (by
                      have e := Ja.inr
                      exact e.append (e.append (e.append (e.append (e.append (e.append (e.append (e.append (e.append (fun _ h => by simp at h)))))))))) (by
                      have := Ja.len
                      simp only [List.length_append, List.length_nil]
                      omega)
                    refine ⟨_, rfl, _, _, rfl, SqL.of Jb.at_, fun l2 nl2 => ?_⟩
                    rw [cut_int _ (show (0 : Int) ≤ 397 by decide)]
                    exact ⟨_, _, _, rfl, Jb.newl nl2 (Jb.ea.take _) (Jb.inr.take _) (by rw [List.length_take]; have := Jb.len; omega)⟩
                  · exact ⟨_, _, _, rfl, Ja.more (by decide)⟩
                · rintro σ' Hb ⟨l, xs, ps, rfl, Jb⟩
                  exact ⟨_, rfl, q l ps Hb Jb.fr Jb.st_ Jb.h0 ⟨xs, Jb.at_, Jb.ea⟩ Jb.inr Jb.len⟩
end
end Few
/-! Masks: the bits of a number that is not negative. -/
namespace Few
open PySem PySem.Spec PyProof.Rows L2
def maskN : Nat → (Nat → Bool) → Nat
  | 0, _ => 0
  | n + 1, f => maskN n f ||| (if f n then 2 ^ n else 0)
theorem maskN_bit : ∀ (n : Nat) (f : Nat → Bool) (i : Nat), (maskN n f).testBit i = (decide (i < n) && f i)
  | 0, f, i => by simp [maskN]
  | n + 1, f, i => by
    unfold maskN
    rw [Nat.testBit_or, maskN_bit n f i]
    by_cases h : f n = true
    · rw [if_pos h, Nat.testBit_two_pow]
      by_cases e : n = i
      · subst e
        simp [h]
      · have e1 : decide (i < n + 1) = decide (i < n) := decide_eq_decide.mpr ⟨fun z => by omega, fun z => by omega⟩
        rw [e1, decide_eq_false e, Bool.or_false]
    · rw [if_neg h, Nat.zero_testBit, Bool.or_false]
      by_cases e : n = i
      · subst e
        rw [Bool.not_eq_true] at h
        simp [h]
      · have e1 : decide (i < n + 1) = decide (i < n) := decide_eq_decide.mpr ⟨fun z => by omega, fun z => by omega⟩
        rw [e1]
theorem maskN_lt (n : Nat) (f : Nat → Bool) : maskN n f < 2 ^ n := by
  apply Nat.lt_pow_two_of_testBit
  intro i hi
  rw [maskN_bit, decide_eq_false (by omega)]
  rfl
theorem maskN_of {n m : Nat} {f : Nat → Bool} (h : ∀ i, m.testBit i = (decide (i < n) && f i)) : m = maskN n f := Nat.eq_of_testBit_eq fun i => by rw [h, maskN_bit]
theorem maskN_congr {n : Nat} {f g : Nat → Bool} (h : ∀ i, i < n → f i = g i) : maskN n f = maskN n g := maskN_of fun i => by
  rw [maskN_bit]
  by_cases e : i < n
  · rw [h i e]
  · rw [decide_eq_false e]; rfl
theorem maskN_zero (n : Nat) : maskN n (fun _ => false) = 0 := (maskN_of fun i => by rw [Nat.zero_testBit, Bool.and_false]).symm
theorem maskN_set {n a : Nat} {f : Nat → Bool} (h : a < n) : maskN n f ||| 2 ^ a = maskN n (fun x => if x = a then true else f x) := maskN_of fun i => by
  rw [Nat.testBit_or, maskN_bit, Nat.testBit_two_pow]
  by_cases e : i = a
  · rw [if_pos e, decide_eq_true e.symm, decide_eq_true (show i < n by omega), Bool.or_true]
    rfl
  · rw [if_neg e, decide_eq_false (show ¬ a = i from fun z => e z.symm), Bool.or_false]
theorem maskN_or (n : Nat) (f g : Nat → Bool) : maskN n f ||| maskN n g = maskN n (fun x => f x || g x) := maskN_of fun i => by
  rw [Nat.testBit_or, maskN_bit, maskN_bit]
  cases decide (i < n) <;> rfl
theorem maskN_and (n : Nat) (f g : Nat → Bool) : maskN n f &&& maskN n g = maskN n (fun x => f x && g x) := maskN_of fun i => by
  rw [Nat.testBit_and, maskN_bit, maskN_bit]
  cases decide (i < n) <;> rfl
/-! ### the operators' readings -/
theorem shr_bit (m j : Nat) {z : Int} (hz : z = (j : Int)) : Builtin.bitAnd ((m : Int) / 2 ^ z.toNat) 1 = if m.testBit j then 1 else 0 := by
  rw [hz, Int.toNat_natCast]
  have e : ((m : Int) / 2 ^ j) = ((m / 2 ^ j : Nat) : Int) := by
    rw [Int.natCast_ediv, Int.natCast_pow]
    rfl
  rw [e, bitAnd_pp (Int.natCast_nonneg _) (by decide)]
  rw [Int.toNat_natCast]
  have e2 : (1 : Int).toNat = 1 := rfl
  rw [e2, Nat.and_one_is_mod, Nat.testBit_eq_decide_div_mod_eq]
  by_cases h : m / 2 ^ j % 2 = 1
  · rw [h, decide_eq_true rfl]; rfl
  · have h0 : m / 2 ^ j % 2 = 0 := by omega
    rw [h0]
    rfl
theorem or_shl (m a : Nat) {z : Int} (hz : z = (a : Int)) : Builtin.bitOr (m : Int) (1 * 2 ^ z.toNat) = ((m ||| 2 ^ a : Nat) : Int) := by
  rw [hz, Int.toNat_natCast, Int.one_mul]
  have e : ((2 : Int) ^ a) = ((2 ^ a : Nat) : Int) := by rw [Int.natCast_pow]; rfl
  rw [e, bitOr_nn (Int.natCast_nonneg _) (Int.natCast_nonneg _), Int.toNat_natCast, Int.toNat_natCast]
theorem or_nat (m k : Nat) : Builtin.bitOr (m : Int) (k : Int) = ((m ||| k : Nat) : Int) := by rw [bitOr_nn (by omega) (by omega), Int.toNat_natCast, Int.toNat_natCast]
theorem and_nat (m k : Nat) : Builtin.bitAnd (m : Int) (k : Int) = ((m &&& k : Nat) : Int) := by rw [bitAnd_pp (by omega) (by omega), Int.toNat_natCast, Int.toNat_natCast]
/-- the numbers of a mask -/
def bitsL (n : Nat) (f : Nat → Bool) : List Nat := (List.range n).filter f
theorem bits_len {m n : Nat} (h : m < 2 ^ n) : Builtin.Int.intBits (m : Int) ≤ n ∧ ∀ i, Builtin.Int.intBits (m : Int) ≤ i → m.testBit i = false := by
  unfold Builtin.Int.intBits
  by_cases h0 : m = 0
  · subst h0
    simp
  · have hb : ((m : Int) == 0) = false := by simpa using h0
    rw [hb, if_neg Bool.false_ne_true, Int.natAbs_natCast]
    have k : m.log2 < n := (Nat.log2_lt h0).mpr h
    refine ⟨k, fun i hi => ?_⟩
    apply Nat.testBit_lt_two_pow
    exact (Nat.log2_lt h0).mp (by omega)
theorem filter_bits {m n : Nat} (h : m < 2 ^ n) : (List.range (Builtin.Int.intBits (m : Int))).filter (fun i => m.testBit i) = (List.range n).filter fun i => m.testBit i := by
  obtain ⟨h1, h2⟩ := bits_len h
  obtain ⟨d, rfl⟩ : ∃ d, n = Builtin.Int.intBits (m : Int) + d := ⟨n - Builtin.Int.intBits (m : Int), by omega⟩
  clear h1 h
  generalize Builtin.Int.intBits (m : Int) = b at h2
  induction d with
  | zero => rfl
  | succ d ih =>
    rw [← Nat.add_assoc, List.range_succ, List.filter_append, ← ih, filter_no, List.append_nil]
    rw [h2 (b + d) (by omega)]
    exact Bool.false_ne_true
theorem bits_mask (n : Nat) (f : Nat → Bool) : ((List.range n).filter fun i => (maskN n f).testBit i) = bitsL n f := by
  unfold bitsL
  apply List.filter_congr
  intro i hi
  rw [maskN_bit, decide_eq_true (List.mem_range.mp hi), Bool.true_and]
/-- the masks of a table, column by column -/
def colV (n : Nat) (M : Tb) : List V := (List.range n).map fun b => V.int ((maskN n (fun a => M a b) : Nat) : Int)
theorem colV_len {n : Nat} {M : Tb} : (colV n M).length = n := by unfold colV; rw [List.length_map, List.length_range]
theorem colV_get {n b : Nat} {M : Tb} (h : b < n) : (colV n M)[b]? = some (.int ((maskN n (fun a => M a b) : Nat) : Int)) := by
  unfold colV
  rw [List.getElem?_map, List.getElem?_range h]
  rfl
def MasksAt (H : Hp) (p : Addr) (n : Nat) (M : Tb) : Prop := H p = some (.lst (colV n M))
theorem colV_ints (n : Nat) (M : Tb) : colV n M = ((List.range n).map fun b => ((maskN n (fun a => M a b) : Nat) : Int)).map V.int := by
  unfold colV
  rw [List.map_map]
  rfl
theorem notSt_col {n : Nat} {M : Tb} : NotSt (.lst (colV n M)) := by rw [colV_ints]; exact notSt_ints
theorem MasksAt.keep {H H' : Hp} {p : Addr} {n : Nat} {M : Tb} (k : Keep H H') (h : MasksAt H p n M) : MasksAt H' p n M := k p _ notSt_col h
theorem colV_set {n b : Nat} {M M' : Tb} {m : Nat} (hb : b < n) (hm : m = maskN n (fun a => M' a b)) (ho : ∀ x y, x < n → y < n → y ≠ b → M' x y = M x y) : (colV n M).set b (.int (m : Int)) = colV n M' := by
  apply List.ext_getElem?
  intro k
  by_cases hk : k < n
  · rw [colV_get hk, List.getElem?_set]
    by_cases e : b = k
    · rw [if_pos e, if_pos (by rw [colV_len]; exact hb), hm, e]
    · rw [if_neg e, colV_get hk, maskN_congr fun a ha => (ho a k ha hk (fun z => e z.symm)).symm]
  · rw [List.getElem?_eq_none (by rw [List.length_set, colV_len]; omega), List.getElem?_eq_none (by rw [colV_len]; omega)]
theorem colV_congr {n : Nat} {M M' : Tb} (h : ∀ x y, x < n → y < n → M x y = M' x y) : colV n M = colV n M' := by
  unfold colV
  refine List.map_congr_left fun b hb => ?_
  rw [maskN_congr fun a ha => h a b ha (List.mem_range.mp hb)]
/-- within the turn m: columns below i are done -/
def mixC (M : Tb) (m i : Nat) : Tb := fun x y => if y < i then stepM M m x y else M x y
theorem mixC_zero (M : Tb) (m : Nat) : mixC M m 0 = M := by
  funext x y
  unfold mixC
  rw [if_neg (by omega)]
theorem mixC_col (M : Tb) (m i x : Nat) : mixC M m i x m = M x m := by
  unfold mixC
  split
  · exact stepM_col M m x
  · rfl
theorem mixC_at (M : Tb) (m i x : Nat) : mixC M m i x i = M x i := by
  unfold mixC
  rw [if_neg (by omega)]
theorem mixC_done (M : Tb) (m n x y : Nat) (h : y < n) : mixC M m n x y = stepM M m x y := by
  unfold mixC
  rw [if_pos h]
theorem mixC_other (M : Tb) (m i x y : Nat) (h : y ≠ i) : mixC M m (i + 1) x y = mixC M m i x y := by
  unfold mixC
  by_cases h1 : y < i
  · rw [if_pos h1, if_pos (by omega)]
  · rw [if_neg h1, if_neg (by omega)]
theorem mixC_new (M : Tb) (m i x : Nat) : mixC M m (i + 1) x i = stepM M m x i := by
  unfold mixC
  rw [if_pos (by omega)]
theorem mixC_skip {M : Tb} {m i : Nat} (h : M m i = false) : mixC M m (i + 1) = mixC M m i := by
  funext x y
  by_cases e : y = i
  · rw [e, mixC_new, mixC_at]
    unfold stepM
    rw [h]
    cases M x i <;> cases M x m <;> rfl
  · exact mixC_other M m i x y e
end Few
set_option maxHeartbeats 4000000
namespace Few
open PySem PySem.Spec PyProof.Rows L2
def sp_members (_ : PySem.W.Frag) : Sp := fun vs H Q _ => ∃ (n m : Nat), vs = [.int m] ∧ m < 2 ^ n ∧ n ≤ 1000 ∧ ∀ (l : Addr) (H' : Hp), Same H H' → H l = none → NatsAt H' l ((List.range n).filter fun i => m.testBit i) → Q (.ref l) H'
def sp_closed_masks (_ : PySem.W.Frag) : Sp := fun vs H Q _ => ∃ (n : Nat) (l : Addr) (ps : List (Int × Int)), vs = [.int n, .ref l] ∧ n ≤ 1000 ∧ PairsAt H l ps ∧ InR n ps ∧
  ∀ (p : Addr) (H' : Hp), Same H H' → H p = none → MasksAt H' p n (clos n ps) → Q (.ref p) H'
def sp_turned_masks (_ : PySem.W.Frag) : Sp := fun vs H Q _ => ∃ (n : Nat) (l : Addr) (M : Tb), vs = [.ref l] ∧ n ≤ 1000 ∧ MasksAt H l n M ∧
  ∀ (p : Addr) (H' : Hp), Same H H' → H p = none → MasksAt H' p n (fun x y => M y x) → Q (.ref p) H'
section
variable {P : Program} {w : World} {K : PySem.W.Frag} {mg : Str → Option Value} {base : Heap}
abbrev s_members : Stmt := topS 10
theorem sc_members : FnScope ["mask", "number"] ["mask"] (defScope s_members) := ⟨rfl, rfl, rfl, by decide +kernel, rfl, by decide +kernel, by decide +kernel⟩
theorem ok_members {f : Addr} {fd : FuncData} (F : Fun K "members" "members" s_members f fd) (T : Blt mg) : FnOk P w K mg base CX0 1 f fd ["mask"] (sp_members K) := by
  refine F.ok sc_members (fun vs H Q E h => ?_) (fun cdv A outer s H vs Q E hr h => ?_)
  · obtain ⟨_, _, rfl, _⟩ := h
    rfl
  · obtain ⟨n, m, rfl, hm, hn, q⟩ := h
    refine ⟨_, (pss_one (ps_ret (pe_lc (own := [("number", 1)]) (g := gName 1) rfl sc_members.nd (pi_range1 rfl T.range (pa_cons (pe_bits (pv 0)) pa_nil)) (blkOk_by (N := ["mask", "number"]) (sc := defScope s_members) (by decide +kernel)) (fun _ _ _ _ _ => (pg_name (i := 1) sc_members.nd rfl (Or.inl rfl))) (fun _ _ _ _ _ => (pts_one (ptK K (pe_op op_and (pe_op op_shr (pv 0) (pv 1)) pe_int)))) (fun _ _ _ _ _ => (pv 1))))), ?_⟩
    obtain ⟨b1, b2⟩ := bits_len hm
    refine ⟨_, rfl, _, rfl, _, rfl, (by omega), (by omega), fun D hD => lc_range (lo := 0) (n := Builtin.Int.intBits (m : Int)) (fun i H1 => Same H H1 ∧ NatsAt H1 D ((List.range i).filter fun i => m.testBit i)) ⟨same_new hD, upd_same⟩ ?_ ?_⟩
    · rintro i H1 hi ⟨sm, hd⟩
      refine ⟨rfl, ?_⟩
      refine ⟨_, rfl, _, rfl, _, _, rfl, rfl, (by show (0 : Int) ≤ 0 + (i : Int); omega), _, _, rfl, rfl, _, rfl, ?_⟩
      rw [shr_bit m i (show (0 : Int) + (i : Int) = (i : Int) by omega)]
      by_cases c : m.testBit i = true
      · rw [if_pos c]
        refine iteT ⟨_, rfl, _, hd, ?_, same_mut sm hD, ?_⟩
        · rw [natV_len]
          exact size_lt (Nat.lt_of_le_of_lt (List.length_filter_le _ _) (by rw [List.length_range]; omega))
        · show upd H1 D _ D = _
          rw [upd_same, List.range_succ, List.filter_append, filter_yes (p := fun i => m.testBit i) c, natV_append, Int.zero_add]
          rfl
      · rw [if_neg c]
        refine iteF ⟨sm, ?_⟩
        rw [List.range_succ, List.filter_append, filter_no (p := fun i => m.testBit i) c, List.append_nil]
        exact hd
    · rintro H1 ⟨sm, hd⟩
      rw [filter_bits hm] at hd
      exact q D H1 sm hD hd
abbrev s_closed_masks : Stmt := topS 14
theorem sc_closed_masks : FnScope ["size", "pairs", "deed", "masks", "a", "b", "middle"] ["size", "pairs"] (defScope s_closed_masks) := ⟨rfl, rfl, rfl, by decide +kernel, rfl, by decide +kernel, by decide +kernel⟩
theorem ok_closed_masks {f : Addr} {fd : FuncData} (F : Fun K "closed_masks" "closed_masks" s_closed_masks f fd) (T : Blt mg) : FnOk P w K mg base CX0 1 f fd ["size", "pairs"] (sp_closed_masks K) := by
  refine F.ok sc_closed_masks (fun vs H Q E h => ?_) (fun cdv A outer s H vs Q E hr h => ?_)
  · obtain ⟨_, _, _, rfl, _⟩ := h
    rfl
  · obtain ⟨n, l, ps, rfl, hn, ⟨xs, hx1, hx2⟩, hin, q⟩ := h
    refine ⟨_, (pss_cons (ps_setLc (i := 3) (own := [("deed", 2)]) (g := gName 2) (tt := tYes) rfl sc_closed_masks.nd rfl rfl (sw_true rfl rfl rfl (by decide +kernel)) (pi_range1 rfl T.range (pa_cons (pv 0) pa_nil)) (blkOk_by (N := ["size", "pairs", "deed", "masks", "a", "b", "middle"]) (sc := defScope s_closed_masks) (by decide +kernel)) (fun _ _ _ _ _ => (pg_name (i := 2) sc_closed_masks.nd rfl (Or.inl rfl))) (fun _ _ _ _ _ => pts_nil) (fun _ _ _ _ _ => pe_int))
    (pss_cons (ps_for PassesOwn.never rfl (pi_list (pv 1)) (pg_tup rfl (pgs_cons (pg_name (i := 4) sc_closed_masks.nd rfl (Or.inl rfl)) (pgs_cons (pg_name (i := 5) sc_closed_masks.nd rfl (Or.inl rfl)) pgs_nil)))
      (pss_one (ps_asg (pe_op op_or (pe_ix (ixL K) (pv 3) (pv 5) (fun _ _ => rfl)) (pe_op op_shl pe_int (pv 4))) (pg_sub (pv 3) (pv 5) set_list))))
    (pss_cons (ps_for PassesOwn.never rfl (pi_range1 rfl T.range (pa_cons (pv 0) pa_nil)) (pg_name (i := 6) sc_closed_masks.nd rfl (Or.inl rfl))
      (pss_one (ps_for PassesOwn.never rfl (pi_range1 rfl T.range (pa_cons (pv 0) pa_nil)) (pg_name (i := 2) sc_closed_masks.nd rfl (Or.inl rfl))
          (pss_one (ps_if (ptK K (pe_op op_and (pe_op op_shr (pe_ix (ixL K) (pv 3) (pv 2) (fun _ _ => rfl)) (pv 6)) pe_int))
              (pss_one (ps_asg (pe_op op_or (pe_ix (ixL K) (pv 3) (pv 2) (fun _ _ => rfl)) (pe_ix (ixL K) (pv 3) (pv 6) (fun _ _ => rfl))) (pg_sub (pv 3) (pv 2) set_list)))
              pss_nil)))))
    (pss_one (ps_ret (pv 3)))))), ?_⟩
    refine ⟨_, rfl, _, rfl, (by omega), (by omega), fun D hD => lc_range (lo := 0) (n := n) (fun i H1 => Same H H1 ∧ H1 D = some (.lst (List.replicate i (.int 0)))) ⟨same_new hD, upd_same⟩ ?_ ?_⟩
    · rintro i H1 hi ⟨sm, hd⟩
      refine ⟨rfl, _, hd, size_lt (by rw [List.length_replicate]; omega), same_mut sm hD, ?_⟩
      rw [upd_same, List.replicate_succ']
    · rintro H1 ⟨sm, hd⟩
      have hd : MasksAt H1 D n (initM []) := by
        show H1 D = _
        rw [hd]
        unfold colV
        rw [initM_nil]
        congr 2
        apply List.ext_getElem?
        intro k
        rw [List.getElem?_replicate, List.getElem?_map]
        by_cases hk : k < n
        · rw [if_pos hk, List.getElem?_range hk]
          show _ = some (V.int ((maskN n (fun _ => false) : Nat) : Int))
          rw [maskN_zero]
          rfl
        · rw [if_neg hk, List.getElem?_eq_none (by rw [List.length_range]; omega)]
          rfl
      -- for a, b in pairs
      refine ⟨_, rfl, _, rfl, ⟨_, SqL.of (sm _ _ hx1)⟩, for_list (xs := xs) (fun i σ H2 => ∃ y4 y5 : Option V, σ = [some (.int n), some (.ref l), none, some (.ref D), y4, y5, none] ∧ Same H H2 ∧ MasksAt H2 D n (initM (ps.take i)))
        ⟨none, none, rfl, sm, hd⟩ (fun i σ H2 _ h => ?_) ?_ ?_⟩
      · obtain ⟨_, _, _, h, _⟩ := h
        exact SqL.of (h _ _ hx1)
      · rintro i x σ H2 hx ⟨y4, y5, rfl, sm2, hd2⟩
        have hd2 : H2 D = some (.lst (colV n (initM (ps.take i)))) := hd2
        obtain ⟨⟨a', b'⟩, hp, t, rfl, ht⟩ := hx2.2 i x hx
        have hi := hin _ (List.mem_of_getElem? hp)
        obtain ⟨a, rfl⟩ := Int.eq_ofNat_of_zero_le hi.1.1
        obtain ⟨b, rfl⟩ := Int.eq_ofNat_of_zero_le hi.2.1
        have ha : a < n := by have := hi.1.2; simp at this; omega
        have hb : b < n := by have := hi.2.2; simp at this; omega
        refine ⟨t, _, rfl, SqT.of (sm2 _ _ ht), rfl, _, _, rfl, _, _, rfl, rfl, ?_⟩
        refine ⟨_, rfl, _, rfl, _, _, _, _, rfl, rfl, SqL.of hd2, atI_nat (colV_get hb), _, rfl, _, _, rfl, rfl, ⟨by omega, by omega, by decide⟩, _, _, rfl, rfl, _, rfl, _, rfl, _, _, _, b, rfl, rfl, hd2, (by rw [colV_len]; exact ixN_of hb), ?_⟩
        refine ⟨_, _, rfl, same_mut sm2 hD, ?_⟩
        show upd H2 D _ D = _
        rw [upd_same]
        show some (HO.lst ((colV n (initM (ps.take i))).set b (V.int (Builtin.bitOr ((maskN n (fun a => initM (ps.take i) a b) : Nat) : Int) (1 * 2 ^ (a : Int).toNat))))) = _
        rw [or_shl _ a rfl, initM_more hp]
        rw [colV_set (M' := setT (initM (ps.take i)) a b) hb]
        · rw [maskN_set ha]
          apply maskN_congr
          intro x _
          unfold setT
          by_cases e : x = a
          · rw [if_pos e, if_pos ⟨e, rfl⟩]
          · rw [if_neg e, if_neg (fun z => e z.1)]
        · intro x y _ _ hy
          unfold setT
          rw [if_neg (fun z => hy z.2)]
      · rintro σ H2 ⟨y4, y5, rfl, sm2, hd2⟩
        rw [hx2.1, List.take_length] at hd2
        -- for middle in range(size)
        refine ⟨_, rfl, _, rfl, (by omega), (by omega), for_range (lo := 0) (n := n) (fun m σ H3 => ∃ y2 y4 y5 y6 : Option V, σ = [some (.int n), some (.ref l), y2, some (.ref D), y4, y5, y6] ∧ Same H H3 ∧ MasksAt H3 D n (upto (initM ps) m))
          ⟨_, _, _, _, rfl, sm2, hd2⟩ ?_ ?_⟩
        · rintro m σ H3 hm ⟨z2, z4, z5, z6, rfl, sm3, hd3⟩
          refine ⟨_, rfl, _, rfl, (by omega), (by omega), for_range (lo := 0) (n := n) (fun i σ H4 => ∃ y2 : Option V, σ = [some (.int n), some (.ref l), y2, some (.ref D), z4, z5, some (.int (0 + (m : Int)))] ∧ Same H H4 ∧ MasksAt H4 D n (mixC (upto (initM ps) m) m i))
            ⟨_, rfl, sm3, by rw [mixC_zero]; exact hd3⟩ ?_ ?_⟩
          · rintro i σ H4 hi ⟨u2, rfl, sm4, hd4⟩
            have hd4' : H4 D = some (.lst (colV n (mixC (upto (initM ps) m) m i))) := hd4
            refine ⟨_, rfl, _, rfl, _, _, _, _, rfl, rfl, SqL.of hd4', at_zero (colV_get hi), _, rfl, _, _, rfl, rfl, (by show (0 : Int) ≤ 0 + (m : Int); omega), _, _, rfl, rfl, _, rfl, ?_⟩
            rw [shr_bit _ m (show (0 : Int) + (m : Int) = (m : Int) by omega), maskN_bit, decide_eq_true hm, Bool.true_and, mixC_at]
            by_cases c : upto (initM ps) m m i = true
            · rw [if_pos c]
              refine iteT ?_
              refine ⟨_, rfl, _, rfl, _, _, _, _, rfl, rfl, SqL.of hd4', at_zero (colV_get hi), _, rfl, _, rfl, _, _, _, _, rfl, rfl, SqL.of hd4', at_zero (colV_get hm), _, _, rfl, rfl, _, rfl, _, rfl, _, _, _, i, rfl, rfl, hd4', (by rw [colV_len]; exact ixN_zero hi), ?_⟩
              refine ⟨_, rfl, same_mut sm4 hD, ?_⟩
              show upd H4 D _ D = _
              rw [upd_same]
              show some (HO.lst ((colV n (mixC (upto (initM ps) m) m i)).set i (V.int (Builtin.bitOr ((maskN n (fun a => mixC (upto (initM ps) m) m i a i) : Nat) : Int) ((maskN n (fun a => mixC (upto (initM ps) m) m i a m) : Nat) : Int))))) = _
              rw [or_nat, maskN_or, colV_set (M' := mixC (upto (initM ps) m) m (i + 1)) hi]
              · apply maskN_congr
                intro x _
                rw [mixC_at, mixC_col, mixC_new]
                unfold stepM
                rw [c, Bool.and_true]
              · intro x y _ _ hy
                exact mixC_other _ _ _ _ _ hy
            · rw [if_neg c]
              refine iteF ⟨_, rfl, sm4, ?_⟩
              rw [mixC_skip (Bool.not_eq_true _ |>.mp c)]
              exact hd4
          · rintro σ H4 ⟨u2, rfl, sm4, hd4⟩
            refine ⟨_, _, _, _, rfl, sm4, ?_⟩
            rw [upto_succ]
            show H4 D = _
            rw [show H4 D = _ from hd4, colV_congr fun x y _ hy => mixC_done _ _ _ _ _ hy]
        · rintro σ H3 ⟨z2, z4, z5, z6, rfl, sm3, hd3⟩
          exact ⟨_, rfl, q D H3 sm3 hD hd3⟩
end
end Few
set_option maxHeartbeats 4000000
/-! An own error over own errors over ValueError, whose __init__ begins with super().__init__(e): its __init__ as a def that keeps a promise. -/
namespace Few
open PySem PySem.W PySem.Spec PyProof.Rows L2 NdefX
/-- what the written part says of the class at C, its cell at cc, the code of its __init__ at cda -/
structure SupC (P : Program) (K : PySem.W.Frag) (mg : Str → Option Value) (C cc cda : Addr) : Prop where
  T : OexC K C
  cell : ∃ cl cld csl, K.lookup cc = some ⟨cl, cld, .cell (some (.ref C)), csl⟩
  code : ∃ ccl cdd vs ccs file tf, K.lookup cda = some ⟨ccl, cdd, .fields vs, ccs⟩ ∧ vs[2]? = some (.str file tf) ∧ ((P.main.file : Str) == file) = true
  cls : ∃ cd, clsIn K C = some cd
  self_ : mroIn K C (.ref C) = some true
  sup : ks_superIn K C C "__init__" = some (some (.builtin "ValueError.__init__"))
  isV : subIn K (.ref C) (.type "ValueError") = some true
  opq : nsIn K cStatics "thirdparty.any" = some none
  mgs : mg "super" = none
  top : (P.main.scope.names.lookup ("super" : Str)).isSome = false
section
variable {P : Program} {w : World} {K : PySem.W.Frag} {mg : Str → Option Value} {base : Heap}
/-- super().__init__(..) called on the method-wrapper at u -/
theorem mw_call {X : Cx} {pins : List (Addr × Obj)} {σ : L2.St} {H : Hp} {s : Shared} {a C u : Addr} {us : List Value} {Q : Value → Shared → Prop} {E : Value → Shared → Prop} (T : OexC X.K C) (I : Inv X pins σ H s) (e : H a = some (exo a C none)) (hu : KxsAt "ValueError.__init__" u a s.heap) (hl : us.length ≤ sizeLine)
    (h : ∀ s', Inv X pins σ H s' → Q .none s') : wpAny (model X.prog X.w) X.A (call (.ref u) us) Q E s := by
  obtain ⟨nm, q, N, bs, bm, sn, sub, ab, col, dd, k0, k1, k2, k3, k5, hC, hbm⟩ := T.cls
  obtain ⟨t1, ho⟩ := exo_at I.hok e
  have hCs := I.kIn _ _ hC
  have fin : ∀ h', (∀ b o, b ≠ a → s.heap.get? b = some o → h'.get? b = some o) → h'.get? a = some ({ cls := .ref C, dict := none, data := .fields #[.ref s.heap.objs.size, .none, .none, .none, .bool false, .none] } : Obj) → Q .none { s with heap := h' } := fun h' k hx => by
    have J := I.write (t' := s.toks) (x := a) (e := a) (o := exo a C none) (by rw [e]; exact True.intro) (.inl rfl) k ⟨_, hx⟩ (exo_ok hx)
    have eu : upd H a (exo a C none) = H := by
      funext b
      by_cases hb : b = a
      · rw [hb, upd_same, e]
      · rw [upd_ne hb]
    rw [eu] at J
    exact h _ J
  obtain ⟨hh, g, d, tk, os⟩ := s
  refine wpAny_call (codeAny_of_tree ?_)
  show wpAny _ X.A.in1 (callAny (.ref u) ⟨us, []⟩) _ _ _
  simp only [callAny]
  refine wpAny_bind (wpAny_load hu ?_)
  simp only [kxs_mw, show (Value.type "method-wrapper" == Value.type "method" || Value.type "method-wrapper" == Value.type "builtin_function_or_method" || Value.type "method-wrapper" == Value.type "method-wrapper") = true by decide, if_true]
  refine KFB.if_so (by decide) ?_
  refine wpAny_bind (check_bound_init F.excBase_ValueError.toExcCallFacts hCs ho rfl ?_)
  refine wpAny_bind (wpAny_pure (wpAny_pure ?_))
  refine ⟨plainId_quiet F.excBase_ValueError.init.plain _, codeAny_builtin F.excBase_ValueError.initEntry ?_⟩
  exact exc_init_tree (cls := .ref C) (t0 := t1) (dv := none) (c2 := .none) (c3 := .none) (b4 := .bool false) ho hl fun h' k e' _ => fin h' k e'

/-- the def of such an __init__, as a made function with its cell -/
abbrev supF (qual : Str) (st : Stmt) (cc cda : Addr) : NF := ⟨"__init__", qual, defArgs st, defBody st, defScope st, [("__class__", cc)], cda⟩
abbrev supX (P : Program) (w : World) (K : PySem.W.Frag) (mg : Str → Option Value) (base : Heap) (N : List Str) (qual : Str) (st : Stmt) (cc cda f : Addr) (A : Around) (outer : List Env) (s : Shared) (H : Hp) (E : XK) : Cx := ncx CX0 P w K mg base N (supF qual st cc cda) f A outer s H E
theorem look1 {y : Str} {c cc : Addr} (h : List.lookup y [(("__class__" : Str), cc)] = some c) : y = ("__class__" : Str) ∧ c = cc := by
  unfold List.lookup at h
  split at h
  · rename_i e
    exact ⟨eq_of_beq e, (Option.some.inj h).symm⟩
  · simp [List.lookup] at h
theorem fn_sup {C cc cda f : Addr} {st : Stmt} {qual : Str} {N ps : List Str} {k : Nat} {sp : Sp} {oc doc pm ctv : Value} {od : Option Addr} {osl : Array (Option Value)} {p0 p1 p2 p3 p4 : Pos} {e : Expr} {rest : List Stmt} {ar : Arg}
    (lk : K.lookup f = some ⟨oc, od, .func ((supF qual st cc cda).fd doc pm ctv), osl⟩) (hcd : codeIn K (.ref cda) qual = true) (S : NScope N ps ["__class__"] (defScope st)) (B : SupC P K mg C cc cda)
    (len : ∀ vs H Q E, sp vs H Q E → vs.length = ps.length)
    (hbd : defBody st = .Expr (.Call (.Attribute (.Call (.Name "super" p0) [] [] p1) "__init__" p2) [e] [] p3) p4 :: rest)
    (hpar : ((defArgs st).posonlyargs ++ (defArgs st).args).head? = some ar) (hself : ar.arg = "self") (hN0 : N[0]? = some ("self" : Str)) (hloc : (defScope st).names.lookup ("self" : Str) = some .local)
    (hks : (defScope st).names.lookup ("super" : Str) = some .globalImplicit)
    (hbody : ∀ (A : Around) (outer : List Env) (s : Shared) (H : Hp) (vs : List V) (Q : VK) (E : XK), sp vs H Q E →
      ∃ (a : Addr) (r : List V) (te : TA) (t : TS), vs = .ref a :: r ∧ H a = some (exo a C none) ∧ PA (supX P w K mg base N qual st cc cda f A outer s H E) [e] te ∧ PSs (supX P w K mg base N qual st cc cda f A outer s H E) rest t ∧
        te (startF N vs [some (.ref C)]) H fun ws H1 => H1 a = some (exo a C none) ∧ ws.length ≤ 1000 ∧ t { nx := fun _ H' => Q .non H', rt := Q } (startF N vs [some (.ref C)]) H1)
    {pl : Sem Bool} (hev : ∀ L : Addr, eval (.Call (.Attribute (.Call (.Name "super" p0) [] [] p1) "__init__" p2) [e] [] p3) (envF (supF qual st cc cda) f L) = (do
      let ov ← attributeBase (.Call (.Name "super" p0) [] [] p1) "__init__" (envF (supF qual st cc cda) f L) (eval (.Call (.Name "super" p0) [] [] p1) (envF (supF qual st cc cda) f L))
      standAt p2.atName
      let (g, first) ← holding [ov] (getMethod ov "__init__" pl)
      callWith p3 g first (backTo p3 (starEach [e] (envF (supF qual st cc cda) f L))) []) := by intro _; rfl)
    (hse : ∀ L : Addr, starEach [e] (envF (supF qual st cc cda) f L) = (false, eval e (envF (supF qual st cc cda) f L)) :: starEach [] (envF (supF qual st cc cda) f L) := by intro _; rfl) :
    FnOk P w K mg base CX0 (k + 1) f ((supF qual st cc cda).fd doc pm ctv) ps sp := by
  refine ⟨len, fun A outer s H args us vs Q E hr e0 hb r hsp => ?_⟩
  have hl := len _ _ _ _ hsp
  have kb : ∀ b o, base.get? b = some o → s.heap.get? b = some o := fun b o e => (e0.bs b o e).1
  have KX : K.In s.heap := e0.mod.kin.keeps kb
  have lim : s.heap.NoLimit := e0.mod.nolimit.keeps kb
  obtain ⟨cl, cld, csl, hcell⟩ := B.cell
  have hcb : base.get? cc = some ⟨cl, cld, .cell (some (.ref C)), csl⟩ := e0.mod.kin _ _ hcell
  have hcu : K.lookup cc = some ⟨cl, cld, .cell (some (.ref C)), csl⟩ := hcell
  have Cs : CellsAt (supF qual st cc cda).cl ["__class__"] [some (.ref C)] s.heap H := by
    refine ⟨rfl, fun y c hc => ?_, fun x y c h1 h2 => ?_, fun i y hy => ?_⟩
    · obtain ⟨_, rfl⟩ := look1 hc
      exact ⟨(e0.bs _ _ hcb).2, _, _, kb _ _ hcb, rfl⟩
    · rw [(look1 h1).1, (look1 h2).1]
    · cases i with
      | zero =>
        have e1 : y = ("__class__" : Str) := (Option.some.inj hy).symm
        refine ⟨cc, by rw [e1]; simp [List.lookup], fun v hv => ?_⟩
        have e2 : v = .ref C := (Option.some.inj (Option.some.inj hv)).symm
        exact ⟨.ref C, by rw [e2]; rfl, _, kb _ _ hcb, rfl⟩
      | succ i => simp at hy
  refine ks_codeAny_call_defAt (fd := (supF qual st cc cda).fd doc pm ctv) (body := defBody st) (binds := ps.zip us) hr.depth (KX _ _ lk) rfl lim (codeRec_of KX hcd) rfl hb S.nocell (fun ⟨n, _⟩ hy => S.par n (List.of_mem_zip hy).1) (fun h₁ hns kp => ?_) S.co S.gen S.kind
  have I := inv_startN (CX := CX0) (E := E) (tk := s.toks + (ps.zip us).length) (f := f) (F := supF qual st cc cda) S hr.hd e0 hl r Cs hns kp
  show PySem.wpAt (model P w) (A.deeper (envF (supF qual st cc cda) f s.heap.objs.size)) (.func (defBody st) (envF (supF qual st cc cda) f s.heap.objs.size)) (execs (defBody st) (envF (supF qual st cc cda) f s.heap.objs.size)) _ _ _
  obtain ⟨a, r', te, t, rfl, ha, hte, ht, hq⟩ := hbody A outer s H vs Q E hsp
  have hquiet := I.quiet
  have hbd' : execs (defBody st) (envF (supF qual st cc cda) f s.heap.objs.size) = execs (.Expr (.Call (.Attribute (.Call (.Name "super" p0) [] [] p1) "__init__" p2) [e] [] p3) p4 :: rest) (envF (supF qual st cc cda) f s.heap.objs.size) := by rw [hbd]
  rw [hbd']
  generalize hs1 : ({ s with heap := h₁, toks := s.toks + (ps.zip us).length } : Shared) = s1 at I ⊢
  obtain ⟨hh, g, d, tk, os⟩ := s1
  have XI := I.kIn
  have XI : K.In hh := XI
  obtain ⟨t1, hx⟩ := exo_at I.hok ha
  have hx : hh.get? a = some ({ cls := .ref C, dict := none, data := .fields #[.ref t1, .none, .none, .none, .bool false, .none] } : Obj) := hx
  obtain ⟨ccl, cdd, vs2, ccs, file, tf, hcode, hvs, hfile⟩ := B.code
  obtain ⟨cd, hcd2⟩ := B.cls
  obtain ⟨oD, hD1, hD2⟩ : ∃ oD, hh.get? C = some oD ∧ oD.data = .cls cd := by
    have hD := hcd2
    unfold clsIn at hD
    split at hD
    · rename_i c d cd' sl ho
      cases hD
      exact ⟨_, XI _ _ ho, rfl⟩
    · cases hD
  have hxC : a ≠ C := fun z => by
    rw [z, hD1] at hx
    injection hx with hx
    rw [hx] at hD2
    cases hD2
  refine ks_wpAt_execs_cons (ks_wpAt_Expr_any (ks_wpAt_MethodCall ?_ (hev _)) hquiet)
  refine ks_wpAt_super_base (f := f) (cc := cda) hks (S.frk _ (by simp)) (by decide) rfl (XI _ _ lk) rfl hpar rfl (XI _ _ hcode) rfl hvs hfile B.top ?_
  obtain ⟨mb, hb1, hb2⟩ := I.mod.blt
  refine ks_loadName_global S.kind hks (Calls.loadGlobal_builtin (env := envF (supF qual st cc cda) f s.heap.objs.size) (I.mod.glob.keeps I.bk) B.mgs (hb1.keeps I.bk) ((hb2 _ (by decide)).trans (by rfl)) ⟨rfl, ?_⟩)
  refine wpAny_loadName_free S.kind (S.frk _ (by simp)) (by simp [List.lookup]) ⟨_, XI _ _ hcell, rfl⟩ ?_
  obtain ⟨m, hns2, hlk⟩ := I.loc
  obtain ⟨u0, hu0, hu1⟩ := hlk 0 "self" (.ref a) hN0 rfl (.inl hloc)
  have hu0 : u0 = .ref a := hu0
  have hu2 : m "self" = some (.ref a) := by
    rcases hu1 with ⟨_, h2⟩ | ⟨h1, _⟩
    · rw [h2, hu0]
    · have h1 : List.lookup ("self" : Str) (defScope st).names = some .cell ∨ List.lookup ("self" : Str) (defScope st).names = some .free := h1
      rcases h1 with h1 | h1
      · rw [hloc] at h1; cases h1
      · rw [hloc] at h1; cases h1
  rw [hself]
  refine wpAny_loadName_local S.kind hloc hns2 hu2 ?_
  refine ks_wpAny_isType_cls hD1 hD2 ⟨rfl, ?_⟩
  refine ks_wpAny_call_super hD1 hD2 hx rfl (fun c z => by cases z) (looks_mroIn XI B.self_) (fun h' es k => ?_)
  have X' : K.In h' := XI.keeps k
  have Ia : InstAt h' a ({ cls := .ref C, dict := none, data := .fields #[.ref t1, .none, .none, .none, .bool false, .none] } : Obj) C none := ⟨k _ _ hx, rfl, rfl, trivial⟩
  have hI : Looks (model P w) h' (isInstance (.ref a) (.type "ValueError")) true := Ia.type.andThen (looks_subIn X' B.isV)
  have hsup := B.sup
  unfold ks_superIn at hsup
  rw [hcd2] at hsup
  refine kxs_getMethod kxs_ValueError es (looks_opaque X' B.opq) (l₀ := cd.mro) (fun A Q E s k q => wpAny_bind ((looks_clsIn X' hcd2) A _ E s k (wpAny_pure q))) rfl X' hsup hI hxC (by decide) ?_
  have hlt : hh.objs.size ≤ h'.objs.size := Nat.le_of_lt (Nat.lt_of_le_of_lt (Nat.le_refl _) (Heap.lt_size es))
  have I3 := I.kept (t' := tk + 1) (h' := h'.push (kxs_mw "ValueError.__init__" a)) fun b u e => Heap.get?_push_of_some _ (k b u e)
  have hmw : (h'.push (kxs_mw "ValueError.__init__" a)).get? h'.objs.size = some (kxs_mw "ValueError.__init__" a) := Heap.get?_push_at rfl rfl
  have I4 : Inv (supX P w K mg base N qual st cc cda f A outer s H E) [(h'.objs.size, kxs_mw "ValueError.__init__" a)] _ H ⟨h'.push (kxs_mw "ValueError.__init__" a), g, d, tk + 1, os⟩ := I3.pins_of fun p hp => by
    rw [List.mem_singleton] at hp
    subst hp
    refine ⟨hmw, I.hok.fresh hlt, fun z => ?_, I.nofs hlt, fun v z => by cases z⟩
    have h9 : (supX P w K mg base N qual st cc cda f A outer s H E).env.locals < hh.objs.size := I.lt
    exact absurd h9 (Nat.not_lt.mpr (Nat.le_trans hlt (Nat.le_of_eq z)))
  have hrun := hte.run p3 [(h'.objs.size, kxs_mw "ValueError.__init__" a)] _ _ H _ I4 hq
  show wpAny _ _ (callWith p3 (.ref h'.objs.size) [] (backTo p3 (starEach [e] (envF (supF qual st cc cda) f s.heap.objs.size))) []) _ _ _
  have hrun : wpAny (model P w) (A.deeper (envF (supF qual st cc cda) f s.heap.objs.size)) (spliced (backTo p3 (starEach [e] (envF (supF qual st cc cda) f s.heap.objs.size)))) _ _ _ := hrun
  rw [hse] at hrun ⊢
  refine kxs_callWith (i := "ValueError.__init__") (x := a) rfl (Calls.evalArgs_plain ?_)
  refine thn hrun fun us' s4 h4 => ?_
  obtain ⟨ws, H1, I5, r5, ha1, hlen, hq1⟩ := h4
  have hus : us'.length ≤ sizeLine := by
    rw [← Paired.length r5, sizeLine_eq]
    omega
  refine ⟨(I5.pin (h'.objs.size, kxs_mw "ValueError.__init__" a) (List.mem_append_right _ (by simp))).1, mw_call (X := supX P w K mg base N qual st cc cda f A outer s H E) B.T I5 ha1 (I5.pin (h'.objs.size, kxs_mw "ValueError.__init__" a) (List.mem_append_right _ (by simp))).1 hus fun s5 I6 => ?_⟩
  show PySem.wpAt (model P w) _ _ (execs rest (envF (supF qual st cc cda) f s.heap.objs.size)) _ _ s5
  refine PySem.wpAt_of_wpAny (wpAny_mono (ht.run [(h'.objs.size, kxs_mw "ValueError.__init__" a)] s5 _ H1 _ I6 hq1) (fun fl s' hs => ?_) fun e s' hs => hs)
  have fin : ∀ {σ' : L2.St} {H' : Hp} {v : V} {u : Value}, Inv (supX P w K mg base N qual st cc cda f A outer s H E) [(h'.objs.size, kxs_mw "ValueError.__init__" a)] σ' H' s' → L2.RelV v u → Q v H' → CE outer P w H s Q u s' :=
    fun {σ' H' v u} J rv q => ⟨v, H', J.os, J.bare, J.base, J.hok, rv, q⟩
  cases fl with
  | ret u =>
    obtain ⟨v, σ', H', J, rv, q⟩ := hs
    exact fin J rv q
  | next =>
    obtain ⟨σ', H', J, q⟩ := hs
    exact fin (v := V.non) (u := Value.none) J rfl q
  | brk =>
    obtain ⟨_, _, _, q⟩ := hs
    exact False.elim q
  | cont =>
    obtain ⟨_, _, _, q⟩ := hs
    exact False.elim q
end
end Few
set_option maxHeartbeats 4000000
namespace Few
open PySem PySem.Spec PyProof.Rows L2 NdefX
/-- an error's __init__ with one field: the field is laid -/
def sp_err1 (C : Addr) (fld : Str) : Sp := fun vs H Q _ => ∃ (a : Addr) (i : Int), vs = [.ref a, .int i] ∧ H a = some (exo a C none) ∧ i.natAbs < 2 ^ 1000 ∧
  ∀ dx : Addr, H dx = none → dx ≠ a → Q .non (upd (upd H dx (exd dx [(fld, .int i)])) a (exo a C (some dx)))
theorem int_len {i : Int} (h : i.natAbs < 2 ^ 1000) : (Str.ofString (toString i)).length ≤ 1001 := by
  rw [PySem.ofString_length]
  refine int_text_length_le (by decide) ?_
  by_cases h0 : i.natAbs = 0
  · rw [h0]; decide
  · exact (Nat.log2_lt h0).mpr h
theorem len_app0 {a b : Str} {n m k : Nat} (ha : a.length ≤ n) (hb : b.length ≤ m) (h : n + m ≤ k) : (a ++ b).length ≤ k := by
  rw [PySem.Str.length_append]
  omega
theorem len_app {a b : Str} {n m : Nat} (ha : a.length ≤ n) (hb : b.length ≤ m) (h : n + m ≤ 100000) : (a ++ b).length ≤ sizeLine := Nat.le_trans (len_app0 ha hb h) (by decide)
theorem int_log {i : Int} (h : i.natAbs < 2 ^ 1000) : i.natAbs.log2 < 1920 := by
  by_cases h0 : i.natAbs = 0
  · rw [h0]; decide
  · exact Nat.lt_of_lt_of_le ((Nat.log2_lt h0).mpr h) (by decide)
section
variable {P : Program} {w : World} {K : PySem.W.Frag} {mg : Str → Option Value} {base : Heap}
abbrev s_BadDeed : Stmt := inClass (topS 4) 0
theorem ok_BadDeed {C cc cda f : Addr} {oc doc pm ctv : Value} {od : Option Addr} {osl : Array (Option Value)}
    (lk : K.lookup f = some ⟨oc, od, .func ((supF "BadDeed.__init__" s_BadDeed cc cda).fd doc pm ctv), osl⟩) (hcd : PySem.W.codeIn K (.ref cda) "BadDeed.__init__" = true) (B : SupC P K mg C cc cda) (hno : PySem.W.findIn K (.ref C) "bad_deed" = some none) :
    FnOk P w K mg base CX0 1 f ((supF "BadDeed.__init__" s_BadDeed cc cda).fd doc pm ctv) ["self", "bad_deed"] (sp_err1 C "bad_deed") := by
  refine fn_sup (N := ["self", "bad_deed", "__class__"]) lk hcd (nscope_by (by decide +kernel)) B (fun vs H Q E h => ?_) rfl rfl rfl rfl rfl rfl (fun A outer s H vs Q E h => ?_)
  · obtain ⟨_, _, rfl, _⟩ := h
    rfl
  · obtain ⟨a, i, rfl, ha, hi, q⟩ := h
    refine ⟨a, _, _, _, rfl, ha, (pa_cons (pe_joined (PJ.cons (pe_fmt (pv 1)) (PJ.cons pe_str PJ.nil))) pa_nil), (pss_one (ps_ost (pv 0) (pv 1))), ?_⟩
    have k := int_len hi
    refine ⟨_, rfl, .inr ⟨i, rfl, int_log hi, _, rfl, ?_, _, rfl, ?_, ?_⟩⟩
    · exact len_app (n := 0) (m := 1001) (Nat.le_of_eq rfl) k (by decide)
    · exact len_app (n := 1001) (m := 100) (len_app0 (n := 0) (m := 1001) (Nat.le_of_eq rfl) k (by decide)) (by decide +kernel) (by decide)
    · refine ⟨ha, by show 1 ≤ 1000; decide, ?_⟩
      refine ⟨_, rfl, _, rfl, a, C, rfl, B.T, hno, .inl ⟨ha, fun dx hd hne => ?_⟩⟩
      exact q dx hd hne
abbrev s_Ring : Stmt := inClass (topS 5) 0
theorem ok_Ring {C cc cda f : Addr} {oc doc pm ctv : Value} {od : Option Addr} {osl : Array (Option Value)}
    (lk : K.lookup f = some ⟨oc, od, .func ((supF "Ring.__init__" s_Ring cc cda).fd doc pm ctv), osl⟩) (hcd : PySem.W.codeIn K (.ref cda) "Ring.__init__" = true) (B : SupC P K mg C cc cda) (hno : PySem.W.findIn K (.ref C) "ring_deed" = some none) :
    FnOk P w K mg base CX0 1 f ((supF "Ring.__init__" s_Ring cc cda).fd doc pm ctv) ["self", "ring_deed"] (sp_err1 C "ring_deed") := by
  refine fn_sup (N := ["self", "ring_deed", "__class__"]) lk hcd (nscope_by (by decide +kernel)) B (fun vs H Q E h => ?_) rfl rfl rfl rfl rfl rfl (fun A outer s H vs Q E h => ?_)
  · obtain ⟨_, _, rfl, _⟩ := h
    rfl
  · obtain ⟨a, i, rfl, ha, hi, q⟩ := h
    refine ⟨a, _, _, _, rfl, ha, (pa_cons (pe_joined (PJ.cons pe_str (PJ.cons (pe_fmt (pv 1)) (PJ.cons pe_str PJ.nil)))) pa_nil), (pss_one (ps_ost (pv 0) (pv 1))), ?_⟩
    have k := int_len hi
    refine ⟨_, rfl, ?_, _, rfl, .inr ⟨i, rfl, int_log hi, _, rfl, ?_, _, rfl, ?_, ?_⟩⟩
    · decide +kernel
    · exact len_app (n := 100) (m := 1001) (by decide +kernel) k (by decide)
    · exact len_app (n := 1101) (m := 100) (len_app0 (n := 100) (m := 1001) (by decide +kernel) k (by decide)) (by decide +kernel) (by decide)
    · refine ⟨ha, by show 1 ≤ 1000; decide, ?_⟩
      refine ⟨_, rfl, _, rfl, a, C, rfl, B.T, hno, .inl ⟨ha, fun dx hd hne => ?_⟩⟩
      exact q dx hd hne

/-- an own error class with one field, as those who raise it see it -/
structure Err1 (P : Program) (w : World) (K : PySem.W.Frag) (mg : Str → Option Value) (base : Heap) (x fld : Str) (C fI : Addr) (fdI : FuncData) : Prop where
  T : OexC K C
  iC : PySem.W.findIn K (.ref C) "__init__" = some (some (.ref fI))
  tI : PySem.W.typeIn K (.ref fI) = some (.type "function")
  F1 : FnOk P w K mg base CX0 1 fI fdI ["self", fld] (sp_err1 C fld)
  b : Binds K fdI ["self", fld] []
  g : mg x = some (.ref C)
def tRaise1 (C : Addr) (fld : Str) (W : WX) (te : TE) : TS := fun _ σ H => te σ H fun v H1 => ∃ i : Int, v = .int i ∧ i.natAbs < 2 ^ 1000 ∧ ∀ d, H1 d = none → W (.ref C) (some d) σ (upd H1 d (.xd [(fld, .int i)]))
def tM (te : TE) : TE := fun σ H Q => ∃ Q0 : VK, te σ H Q0 ∧ ∀ v H1, Q0 v H1 → Q v H1
theorem pe_M {X : Cx} {e : Expr} {te : TE} (h : PE X e te) : PE X e (tM te) := ⟨fun pins s σ H Q I ⟨Q0, q, m⟩ => wpAny_mono (h.run pins s σ H Q0 I q) (fun u s' ⟨v, H', J, r, q'⟩ => ⟨v, H', J, r, m v H' q'⟩) fun _ _ z => z⟩
theorem del_upd {H1 : Hp} {a dx : Addr} {o1 o2 o3 o4 : HO} (ha : H1 a = none) (hne : dx ≠ a) : upd (del (upd (upd (upd H1 a o1) dx o2) a o3) a) dx o4 = upd H1 dx o4 := by
  funext b
  by_cases h1 : b = dx
  · rw [h1, upd_same, upd_same]
  · rw [upd_ne h1, upd_ne h1]
    by_cases h2 : b = a
    · rw [h2, del_same, ha]
    · rw [del_ne h2, upd_ne h2, upd_ne h1, upd_ne h2]
theorem ps_raise1 {X : Cx} {W : WX} {x fld : Str} {C fI : Addr} {fdI : FuncData} {e : Expr} {te : TE} {p pos pos2 : Pos} (hc : X.calm = true) (B : Err1 X.prog X.w X.K X.mg X.base x fld C fI fdI) (hr : Room 2 X.A) (tk : Takes X W) (ha : PE X e te) (hg : Gl X x := by rfl)
    (hdb : (x == ("__debug__" : Str)) = false := by decide)
    (hs : starEach [e] X.env = (false, eval e X.env) :: starEach [] X.env := by rfl) (hpl : (backTo pos (starEach [] X.env)).any (·.1) = false := by rfl) :
    PS X (.Raise (some (.Call (.Name x p) [e] [] pos)) none pos2) (tRaise1 C fld W te) := by
  refine ⟨fun pins s σ H D I h => (ps_raise hc tk (pmk_oex (k := 1) (sp := sp_err1 C fld) (ds := []) (dvs := []) B.T B.iC B.tI B.F1 hr B.b .nil (fun _ _ _ _ _ _ _ h => h.elim) hg B.g (pa_cons (pe_M ha) pa_nil hs) hdb hs hpl)).run pins s σ H D I ?_⟩
  have key : ∀ v H1, (∃ i : Int, v = V.int i ∧ i.natAbs < 2 ^ 1000 ∧ ∀ d, H1 d = none → W (.ref C) (some d) σ (upd H1 d (.xd [(fld, .int i)]))) →
      ([v].length ≤ 1000 ∧ ∀ a, H1 a = none → sp_err1 C fld (.ref a :: ([v] ++ [])) (upd H1 a (exo a C none))
  (fun v H2 => v = .non ∧ ∃ (d : Addr) (fs : List (Str × V)), H2 a = some (exo a C (some d)) ∧ H2 d = some (exd d fs) ∧ H1 d = none ∧ W (.ref C) (some d) σ (upd (del H2 a) d (.xd fs))) (fun _ _ _ => False)) := by
    rintro v H1 ⟨i, rfl, hi, q⟩
    refine ⟨by show 1 ≤ 1000; decide, fun a ha => ⟨a, i, rfl, upd_same, hi, fun dx hd hne => ⟨rfl, dx, _, upd_same, by rw [upd_ne hne, upd_same], ?_, ?_⟩⟩⟩
    · rw [upd_ne hne] at hd; exact hd
    · rw [del_upd ha hne]
      rw [upd_ne hne] at hd
      exact q dx hd
  exact ⟨_, h, fun v H1 q => key v H1 q⟩
end
end Few
set_option maxHeartbeats 4000000
namespace Few
open PySem PySem.Spec PyProof.Rows L2
def tuM (M : Tb) (i : Nat) : Tb := fun x y => decide (x < i) && M y x
def tuJ (M : Tb) (i : Nat) (l : List Nat) : Tb := fun x y => (decide (x < i) && M y x) || (decide (x = i) && l.contains y)
theorem tuJ_nil (M : Tb) (i : Nat) : tuJ M i [] = tuM M i := by
  funext x y
  unfold tuJ tuM
  simp
theorem tuJ_new (M : Tb) (i a : Nat) (l : List Nat) (x : Nat) : tuJ M i (l ++ [a]) x a = if x = i then true else tuJ M i l x a := by
  unfold tuJ
  by_cases e : x = i
  · subst e
    simp
  · rw [if_neg e, decide_eq_false e]
    rfl
theorem tuJ_other (M : Tb) (i a : Nat) (l : List Nat) (x y : Nat) (h : y ≠ a) : tuJ M i (l ++ [a]) x y = tuJ M i l x y := by
  unfold tuJ
  have : (l ++ [a]).contains y = l.contains y := by
    simp [List.contains_eq_mem, h]
  rw [this]
theorem tuJ_all {M : Tb} {n i x y : Nat} (hy : y < n) : tuJ M i (bitsL n fun a => M a i) x y = tuM M (i + 1) x y := by
  unfold tuJ tuM
  have e : (bitsL n fun a => M a i).contains y = M y i := by
    unfold bitsL
    by_cases h : M y i = true
    · rw [h]
      exact List.contains_iff_mem.mpr (List.mem_filter.mpr ⟨List.mem_range.mpr hy, h⟩)
    · rw [Bool.not_eq_true] at h
      rw [h]
      cases e : (List.filter (fun a => M a i) (List.range n)).contains y with
      | false => rfl
      | true =>
        have := (List.mem_filter.mp (List.contains_iff_mem.mp e)).2
        rw [h] at this
        cases this
  rw [e]
  by_cases h1 : x < i
  · rw [decide_eq_true h1, decide_eq_false (show ¬ x = i by omega), decide_eq_true (show x < i + 1 by omega)]
    simp
  · by_cases h2 : x = i
    · subst h2
      rw [decide_eq_false h1, decide_eq_true rfl, decide_eq_true (show x < x + 1 by omega)]
      simp
    · rw [decide_eq_false h1, decide_eq_false h2, decide_eq_false (show ¬ x < i + 1 by omega)]
      rfl
def sp_check_parts (_ : PySem.W.Frag) : Sp := fun vs H Q _ => ∃ (n : Nat) (l : Addr) (ps : List (Int × Int)), vs = [.int n, .ref l] ∧ n ≤ 16 ∧ PairsAt H l ps ∧ InR n ps ∧ Q .non H
section
variable {P : Program} {w : World} {K : PySem.W.Frag} {mg : Str → Option Value} {base : Heap}
abbrev s_turned_masks : Stmt := topS 15
theorem sc_turned_masks : FnScope ["masks", "mask", "turned", "deed", "earlier"] ["masks"] (defScope s_turned_masks) := ⟨rfl, rfl, rfl, by decide +kernel, rfl, by decide +kernel, by decide +kernel⟩
theorem ok_turned_masks {f : Addr} {fd : FuncData} {f_members : Addr} {fd_members : FuncData} (F : Fun K "turned_masks" "turned_masks" s_turned_masks f fd) (T : Blt mg) (C_members : Cal K mg "members" f_members fd_members ["mask"]) (G_members : FnOk P w K mg base CX0 1 f_members fd_members ["mask"] (sp_members K)) : FnOk P w K mg base CX0 2 f fd ["masks"] (sp_turned_masks K) := by
  refine F.ok sc_turned_masks (fun vs H Q E h => ?_) (fun cdv A outer s H vs Q E hr h => ?_)
  · obtain ⟨_, _, _, rfl, _⟩ := h
    rfl
  · obtain ⟨n, l, M, rfl, hn, hl, q⟩ := h
    refine ⟨_, (pss_cons (ps_setLc (i := 2) (own := [("mask", 1)]) (g := gName 1) (tt := tYes) rfl sc_turned_masks.nd rfl rfl (sw_true rfl rfl rfl (by decide +kernel)) (pi_list (pv 0)) (blkOk_by (N := ["masks", "mask", "turned", "deed", "earlier"]) (sc := defScope s_turned_masks) (by decide +kernel)) (fun _ _ _ _ _ => (pg_name (i := 1) sc_turned_masks.nd rfl (Or.inl rfl))) (fun _ _ _ _ _ => pts_nil) (fun _ _ _ _ _ => pe_int))
    (pss_cons (ps_for PassesOwn.never rfl (pi_enum (by rfl) T.enumerate (pa_cons (pv 0) pa_nil)) (pg_tup rfl (pgs_cons (pg_name (i := 3) sc_turned_masks.nd rfl (Or.inl rfl)) (pgs_cons (pg_name (i := 1) sc_turned_masks.nd rfl (Or.inl rfl)) pgs_nil)))
      (pss_one (ps_for PassesOwn.never rfl (pi_list (pe_call G_members (hr.mono (by decide)) (by rfl) C_members.g C_members.kp C_members.b .nil pass0 (pa_cons (pv 1) pa_nil))) (pg_name (i := 4) sc_turned_masks.nd rfl (Or.inl rfl))
          (pss_one (ps_asg (pe_op op_or (pe_ix (ixL K) (pv 2) (pv 4) (fun _ _ => rfl)) (pe_op op_shl pe_int (pv 3))) (pg_sub (pv 2) (pv 4) set_list))))))
    (pss_one (ps_ret (pv 2))))), ?_⟩
    have hl0 : H l = some (.lst (colV n M)) := hl
    refine ⟨_, rfl, _, rfl, ⟨_, SqL.of hl0⟩, fun D hD => lc_list (xs := colV n M) (fun i H1 => Same H H1 ∧ H1 D = some (.lst (List.replicate i (.int 0)))) ⟨same_new hD, upd_same⟩ (fun i H1 _ h => h.1.seq (SqL.of hl0)) ?_ ?_⟩
    · rintro i x H1 hx ⟨sm, hd⟩
      have hi : i < n := by
        have := (List.getElem?_eq_some_iff.mp hx).1
        rw [colV_len] at this
        exact this
      refine ⟨rfl, _, hd, size_lt (by rw [List.length_replicate]; omega), same_mut sm hD, ?_⟩
      rw [upd_same, List.replicate_succ']
    · rintro H1 ⟨sm, hd⟩
      rw [colV_len] at hd
      have hd : MasksAt H1 D n (tuM M 0) := by
        show H1 D = _
        rw [hd]
        unfold colV
        congr 2
        apply List.ext_getElem?
        intro k
        rw [List.getElem?_replicate, List.getElem?_map]
        by_cases hk : k < n
        · rw [if_pos hk, List.getElem?_range hk]
          have : (fun a => tuM M 0 a k) = fun _ => false := by
            funext a
            unfold tuM
            rfl
          show _ = some (V.int ((maskN n (fun a => tuM M 0 a k) : Nat) : Int))
          rw [this, maskN_zero]
          rfl
        · rw [if_neg hk, List.getElem?_eq_none (by rw [List.length_range]; omega)]
          rfl
      -- for deed, mask in enumerate(masks)
      refine ⟨_, rfl, l, colV n M, rfl, SqL.of (sm _ _ hl0), for_it (walk_enum (xs := colV n M)) (fun i σ H2 => ∃ y1 y3 y4 : Option V, σ = [some (.ref l), y1, some (.ref D), y3, y4] ∧ Same H H2 ∧ MasksAt H2 D n (tuM M i))
        ⟨none, none, none, rfl, sm, hd⟩ (fun i σ H2 _ h => ?_) ?_ ?_⟩
      · obtain ⟨_, _, _, _, h, _⟩ := h
        exact h.seq (SqL.of hl0)
      · rintro i x σ H2 H3 hi ⟨y1, y3, y4, rfl, sm2, hd2⟩ ⟨Tt, x1, x2, rfl, nT, rfl, e1, e2⟩
        rw [colV_len] at hi
        have e1 : x1 = .int (i : Nat) := (Option.some.inj e1).symm
        have e2 : x2 = .int ((maskN n (fun a => M a i) : Nat) : Int) := Option.some.inj (e2.symm.trans (colV_get hi))
        subst e1 e2
        refine ⟨Tt, _, rfl, SqT.of upd_same, rfl, _, _, rfl, _, _, rfl, rfl, ?_⟩
        have sm3 := sm2.trans (same_new (o := .tup [.int (i : Nat), .int ((maskN n (fun a => M a i) : Nat) : Int)]) nT)
        -- for earlier in members(mask)
        refine ⟨_, rfl, n, _, rfl, maskN_lt n _, hn, fun ml H4 sm4 nml hml => ?_⟩
        have hml4 : H4 ml = some (.lst (natV (bitsL n fun a => M a i))) := by
          have := hml
          rw [bits_mask] at this
          exact this
        have hd4 : MasksAt H4 D n (tuM M i) := sm4 _ _ (same_new nT _ _ hd2)
        refine ⟨_, rfl, ⟨_, SqL.of hml4⟩, for_list (xs := natV (bitsL n fun a => M a i)) (fun j σ H5 => ∃ y4 : Option V, σ = [some (.ref l), some (.int ((maskN n (fun a => M a i) : Nat) : Int)), some (.ref D), some (.int (i : Nat)), y4] ∧ Same H H5 ∧ MasksAt H5 D n (tuJ M i ((bitsL n fun a => M a i).take j)) ∧ H5 ml = some (.lst (natV (bitsL n fun a => M a i))))
          ⟨_, rfl, sm3.trans sm4, by rw [List.take_zero, tuJ_nil]; exact hd4, hml4⟩ (fun j σ H5 _ h => ?_) ?_ ?_⟩
        · obtain ⟨_, _, _, _, h⟩ := h
          exact SqL.of h
        · rintro j x σ H5 hx ⟨y4, rfl, sm5, hd5, hml5⟩
          obtain ⟨a, ha1, rfl⟩ := natV_of hx
          have ha : a < n := List.mem_range.mp (List.mem_filter.mp (List.mem_of_getElem? ha1)).1
          have hd5' : H5 D = some (.lst (colV n (tuJ M i ((bitsL n fun a => M a i).take j)))) := hd5
          have nDm : ml ≠ D := (ne_of_none (same_new nT _ _ hd2) nml).symm
          refine ⟨_, rfl, _, rfl, _, _, _, _, rfl, rfl, SqL.of hd5', atI_nat (colV_get ha), _, rfl, _, _, rfl, rfl, ⟨by omega, by omega, by decide⟩, _, _, rfl, rfl, _, rfl, _, rfl, _, _, _, a, rfl, rfl, hd5', (by rw [colV_len]; exact ixN_of ha), ?_⟩
          refine ⟨_, rfl, same_mut sm5 hD, ?_, by rw [upd_ne nDm]; exact hml5⟩
          show upd H5 D _ D = _
          rw [upd_same]
          show some (HO.lst ((colV n (tuJ M i ((bitsL n fun a => M a i).take j))).set a (V.int (Builtin.bitOr ((maskN n (fun x => tuJ M i ((bitsL n fun a => M a i).take j) x a) : Nat) : Int) (1 * 2 ^ (i : Int).toNat))))) = _
          rw [or_shl _ i rfl, take_more ha1, colV_set (M' := tuJ M i ((bitsL n fun a => M a i).take j ++ [a])) ha]
          · rw [maskN_set hi]
            apply maskN_congr
            intro x _
            rw [tuJ_new]
          · intro x y _ _ hy
            exact tuJ_other _ _ _ _ _ _ hy
        · rintro σ H5 ⟨y4, rfl, sm5, hd5, hml5⟩
          rw [natV_len, List.take_length] at hd5
          refine ⟨_, _, _, rfl, sm5, ?_⟩
          show H5 D = _
          rw [show H5 D = _ from hd5, colV_congr fun x y _ hy => tuJ_all hy]
      · rintro σ H2 ⟨y1, y3, y4, rfl, sm2, hd2⟩
        rw [colV_len] at hd2
        refine ⟨_, rfl, q D H2 sm2 hD ?_⟩
        show H2 D = _
        rw [show H2 D = _ from hd2, colV_congr fun x y hx _ => show tuM M n x y = M y x by unfold tuM; rw [decide_eq_true hx, Bool.true_and]]
abbrev s_check_parts : Stmt := topS 13
theorem sc_check_parts : FnScope ["size", "pairs", "pair", "deed"] ["size", "pairs"] (defScope s_check_parts) := ⟨rfl, rfl, rfl, by decide +kernel, rfl, by decide +kernel, by decide +kernel⟩
theorem ok_check_parts {f : Addr} {fd : FuncData} (F : Fun K "check_parts" "check_parts" s_check_parts f fd) (T : Blt mg) : FnOk P w K mg base CX0 1 f fd ["size", "pairs"] (sp_check_parts K) := by
  refine F.ok sc_check_parts (fun vs H Q E h => ?_) (fun cdv A outer s H vs Q E hr h => ?_)
  · obtain ⟨_, _, _, rfl, _⟩ := h
    rfl
  · obtain ⟨n, l, ps, rfl, hn, ⟨xs, hx1, hx2⟩, hin, q⟩ := h
    refine ⟨_, (pss_cons (ps_if (pt_cmpR op_lt (pv 0) pe_int (nomark _))
      (pss_one ps_never)
      pss_nil)
    (pss_cons (ps_for PassesOwn.never rfl (pi_list (pv 1)) (pg_name (i := 2) sc_check_parts.nd rfl (Or.inl rfl))
      (pss_one (ps_for PassesOwn.never rfl (pi_tup (pv 2)) (pg_name (i := 3) sc_check_parts.nd rfl (Or.inl rfl))
          (pss_one (ps_if (PW.pt (pw_or (pt_cmpR op_lt (pv 3) pe_int (nomark _)) (pw_or1 (pt_cmpR op_ge (pv 3) (pv 0) (nomark _)))))
              (pss_one ps_never)
              pss_nil)))))
    (pss_one (ps_if (pt_cmpR op_gt (pv 0) pe_int (nomark _))
      (pss_one ps_never)
      pss_nil)))), ?_⟩
    refine ⟨_, rfl, _, _, rfl, rfl, _, rfl, ?_⟩
    rw [decide_eq_false (show ¬ (n : Int) < 0 by omega)]
    refine iteF ?_
    refine ⟨_, rfl, _, rfl, ⟨_, SqL.of hx1⟩, for_list (xs := xs) (fun i σ H1 => ∃ y2 y3, σ = [some (.int n), some (.ref l), y2, y3] ∧ H1 = H) ⟨none, none, rfl, rfl⟩ (fun i σ H1 _ h => ?_) ?_ ?_⟩
    · obtain ⟨_, _, _, rfl⟩ := h
      exact SqL.of hx1
    · rintro i x σ H1 hx ⟨y2, y3, rfl, rfl⟩
      obtain ⟨⟨a, b⟩, hp, t, rfl, ht⟩ := hx2.2 i x hx
      have hi := hin _ (List.mem_of_getElem? hp)
      refine ⟨_, rfl, _, rfl, ⟨_, SqT.of ht⟩, for_tup (xs := [.int a, .int b]) (fun j σ H2 => ∃ y3, σ = [some (.int n), some (.ref l), some (.ref t), y3] ∧ H2 = H1) ⟨_, rfl, rfl⟩ (fun j σ H2 _ h => ?_) ?_ ?_⟩
      · obtain ⟨_, _, rfl⟩ := h
        exact SqT.of ht
      · rintro j y σ H2 hy ⟨y3, rfl, rfl⟩
        obtain ⟨z, rfl, hz⟩ : ∃ z : Int, y = .int z ∧ 0 ≤ z ∧ z < n := by
          have hy' := List.mem_of_getElem? hy
          rcases List.mem_cons.mp hy' with e | hy'
          · exact ⟨a, e, hi.1⟩
          · rw [List.mem_singleton] at hy'
            exact ⟨b, hy', hi.2⟩
        refine ⟨_, rfl, _, _, rfl, rfl, _, rfl, ?_⟩
        rw [decide_eq_false (show ¬ z < 0 by omega)]
        refine iteF ?_
        refine ⟨_, rfl, _, rfl, _, _, rfl, rfl, _, rfl, ?_⟩
        rw [decide_eq_false (show ¬ (n : Int) ≤ z by omega)]
        exact iteF ⟨_, rfl, rfl⟩
      · rintro σ H2 ⟨y3, rfl, rfl⟩
        exact ⟨_, _, rfl, rfl⟩
    · rintro σ H1 ⟨y2, y3, rfl, rfl⟩
      refine ⟨_, rfl, _, _, rfl, rfl, _, rfl, ?_⟩
      rw [decide_eq_false (show ¬ (16 : Int) < (n : Int) by omega)]
      exact iteF q
end
end Few
set_option maxHeartbeats 2000000
/-! A comprehension of two clauses: the outer over a range, the inner over a list. -/
namespace Few
open PySem PySem.Spec PyProof.Rows L2
/-- the inner clause: from here to what N asks -/
abbrev In2 (J1 : It) (g1 : TG) (tt1 : TT) (te : TE) (vs1 : List Nat) (D : Addr) (σ2 : L2.St) (N : Hp → Prop) (H4 : Hp) : Prop :=
  ∃ W1 : Nat → Nat → Hp → Prop, (∃ m, W1 0 m H4) ∧ ∀ j k H, W1 j k H →
    (J1.stop j H ∧ N H) ∨ (J1.go j H ∧ ∃ Nx1 : Hp → Prop, (∀ H', Nx1 H' → ∃ k', k' < k ∧ W1 (j + 1) k' H') ∧ ∀ x H', J1.yld j H x H' → g1 x (wipe σ2 vs1) H' fun σ3 H5 => wipe σ3 vs1 = wipe σ2 vs1 ∧ tt1 σ3 H5 fun b H6 =>
      if b = true then te σ3 H6 fun y H7 => ∃ acc, H7 D = some (.lst acc) ∧ acc.length < sizeLine ∧ Nx1 (upd H7 D (.lst (acc ++ [y]))) else Nx1 H6)
theorem lc2_range {lo : Int} {n : Nat} {g : TG} {tt : TT} {wi1 : TI} {g1 : TG} {tt1 : TT} {te : TE} {vs vs1 : List Nat} {σ : L2.St} {H1 : Hp} {D : Addr} {Qd : Hp → Prop} (Pv : Nat → Hp → Prop) (h0 : Pv 0 (upd H1 D (.lst [])))
    (hs : ∀ i H, i < n → Pv i H → g (.int (lo + i)) (wipe σ vs) H fun σ2 H2 => wipe σ2 vs = wipe σ vs ∧ tt σ2 H2 fun b H3 => if b = true then wi1 σ2 H3 (fun J1 H4 => In2 J1 g1 tt1 te vs1 D σ2 (Pv (i + 1)) H4) else Pv (i + 1) H3) (hd : ∀ H, Pv n H → Qd H) :
    ∃ W : Nat → Nat → Hp → Prop, (∃ m, W 0 m (upd H1 D (.lst []))) ∧ ∀ i m H, W i m H →
      ((Itr lo n).stop i H ∧ Qd H) ∨ ((Itr lo n).go i H ∧ ∃ Nx : Hp → Prop, (∀ H', Nx H' → ∃ m', m' < m ∧ W (i + 1) m' H') ∧ ∀ x H', (Itr lo n).yld i H x H' → g x (wipe σ vs) H' fun σ2 H2 => wipe σ2 vs = wipe σ vs ∧ tt σ2 H2 fun b H3 =>
        if b = true then wi1 σ2 H3 (fun J1 H4 => In2 J1 g1 tt1 te vs1 D σ2 Nx H4) else Nx H3) := by
  refine ⟨fun i m H => (m = n - i ∧ i ≤ n) ∧ Pv i H, ⟨n, ⟨by simp, by omega⟩, h0⟩, ?_⟩
  rintro i m H ⟨⟨rfl, hi⟩, p⟩
  by_cases c : i < n
  · refine .inr ⟨c, Pv (i + 1), fun G q => ⟨n - (i + 1), by omega, ⟨rfl, by omega⟩, q⟩, fun x G y => ?_⟩
    obtain ⟨rfl, rfl⟩ := y
    exact hs i _ c p
  · obtain rfl : i = n := by omega
    exact .inl ⟨Nat.le_refl _, hd H p⟩
theorem in2_list {K : PySem.W.Frag} {a : Addr} {xs : List V} {g1 : TG} {tt1 : TT} {te : TE} {vs1 : List Nat} {σ2 : L2.St} {D : Addr} {N : Hp → Prop} {H4 : Hp} (Pw : Nat → Hp → Prop) (h0 : Pw 0 H4) (hl : ∀ j H, Pw j H → SqL K H a xs)
    (hs : ∀ j x H, xs[j]? = some x → Pw j H → g1 x (wipe σ2 vs1) H fun σ3 H5 => wipe σ3 vs1 = wipe σ2 vs1 ∧ tt1 σ3 H5 fun b H6 =>
      if b = true then te σ3 H6 fun y H7 => ∃ acc, H7 D = some (.lst acc) ∧ acc.length < sizeLine ∧ Pw (j + 1) (upd H7 D (.lst (acc ++ [y]))) else Pw (j + 1) H6) (hd : ∀ H, Pw xs.length H → N H) : In2 (Itl K a) g1 tt1 te vs1 D σ2 N H4 := by
  refine ⟨fun j k H => (k = xs.length - j ∧ j ≤ xs.length) ∧ Pw j H, ⟨xs.length, ⟨by simp, by omega⟩, h0⟩, ?_⟩
  rintro j k H ⟨⟨rfl, hj⟩, p⟩
  have q := hl j H p
  by_cases c : j < xs.length
  · refine .inr ⟨⟨xs, xs[j], q, List.getElem?_eq_getElem c⟩, Pw (j + 1), fun G r => ⟨xs.length - (j + 1), by omega, ⟨rfl, by omega⟩, r⟩, fun x G y => ?_⟩
    obtain ⟨rfl, y⟩ := y
    exact hs j x _ (y xs q) p
  · obtain rfl : j = xs.length := by omega
    exact .inl ⟨⟨xs, q, Nat.le_refl _⟩, hd H p⟩
end Few
set_option maxHeartbeats 4000000
namespace Few
open PySem PySem.Spec PyProof.Rows L2
/-- what the top says of the class Web, at C -/
structure WebT (K : PySem.W.Frag) (mg : Str → Option Value) (C : Addr) : Prop where
  cl : Cls K C
  n_size : NoAttr K C "size"
  n_masks_ahead : NoAttr K C "masks_ahead"
  n_masks_behind : NoAttr K C "masks_behind"
  n_pair_rows : NoAttr K C "pair_rows"
  g : mg "Web" = some (.ref C)
def webF (n : Nat) (ma mb pr : Addr) : List (Str × V) := [("size", .int n), ("masks_ahead", .ref ma), ("masks_behind", .ref mb), ("pair_rows", .ref pr)]
section
variable {n : Nat} {ma mb pr : Addr} {m : V}
theorem webF_size : (webF n ma mb pr).lookup ("size" : Str) = some (V.int n) := by rfl
theorem webF_ahead : (webF n ma mb pr).lookup ("masks_ahead" : Str) = some (V.ref ma) := by rfl
theorem webF_behind : (webF n ma mb pr).lookup ("masks_behind" : Str) = some (V.ref mb) := by rfl
theorem webF_rows : (webF n ma mb pr).lookup ("pair_rows" : Str) = some (V.ref pr) := by rfl
theorem put1 : putF "size" m [] = [(("size" : Str), m)] := by rfl
theorem put2 {v : V} : putF "masks_ahead" m [(("size" : Str), v)] = [(("size" : Str), v), (("masks_ahead" : Str), m)] := by rfl
theorem put3 {v u : V} : putF "masks_behind" m [(("size" : Str), v), (("masks_ahead" : Str), u)] = [(("size" : Str), v), (("masks_ahead" : Str), u), (("masks_behind" : Str), m)] := by rfl
theorem put4 {v u z : V} : putF "pair_rows" m [(("size" : Str), v), (("masks_ahead" : Str), u), (("masks_behind" : Str), z)] = [(("size" : Str), v), (("masks_ahead" : Str), u), (("masks_behind" : Str), z), (("pair_rows" : Str), m)] := by rfl
end
/-- a web of n deeds at x, a ahead of b where M a b -/
def WebAt (C : Addr) (H : Hp) (x : Addr) (n : Nat) (M : Tb) : Prop := ∃ dx ma mb pr : Addr, H x = some (.ins C dx (webF n ma mb pr)) ∧ MasksAt H ma n M ∧ MasksAt H mb n (fun a b => M b a) ∧ PairsAt H pr (aheadP n M)
theorem WebAt.keep {C : Addr} {H H' : Hp} {x : Addr} {n : Nat} {M : Tb} (k : Keep H H') (h : WebAt C H x n M) : WebAt C H' x n M := by
  obtain ⟨dx, ma, mb, pr, h1, h2, h3, h4⟩ := h
  exact ⟨dx, ma, mb, pr, k _ _ notSt_ins h1, h2.keep k, h3.keep k, h4.keep k⟩
/-- the same, of parts that were not in H0 -/
def WebN (C : Addr) (H0 H : Hp) (x : Addr) (n : Nat) (M : Tb) : Prop := ∃ dx ma mb pr : Addr, H x = some (.ins C dx (webF n ma mb pr)) ∧ MasksAt H ma n M ∧ MasksAt H mb n (fun a b => M b a) ∧ PairsAt H pr (aheadP n M) ∧ H0 ma = none ∧ H0 mb = none ∧ H0 pr = none
theorem WebN.at_ {C : Addr} {H0 H : Hp} {x : Addr} {n : Nat} {M : Tb} (h : WebN C H0 H x n M) : WebAt C H x n M := by
  obtain ⟨dx, ma, mb, pr, h1, h2, h3, h4, _⟩ := h
  exact ⟨dx, ma, mb, pr, h1, h2, h3, h4⟩
/-- the heap but for x -/
def hid (x : Addr) (H : Hp) : Hp := fun b => if b = x then none else H b
theorem hid_at {x b : Addr} {H : Hp} {o : HO} (h : H b = some o) (n : b ≠ x) : hid x H b = some o := by
  unfold hid
  rw [if_neg n]
  exact h
theorem hid_of {x b : Addr} {H : Hp} {o : HO} (h : hid x H b = some o) : H b = some o ∧ b ≠ x := by
  unfold hid at h
  by_cases e : b = x
  · rw [if_pos e] at h; cases h
  · rw [if_neg e] at h; exact ⟨h, e⟩
theorem pairs_hid {x l C dx : Addr} {fs : List (Str × V)} {H : Hp} {ps : List (Int × Int)} (hx : H x = some (.ins C dx fs)) (h : PairsAt H l ps) : PairsAt (hid x H) l ps := by
  obtain ⟨xs, h1, h2⟩ := h
  refine ⟨xs, hid_at h1 (fun z => by rw [z, hx] at h1; cases h1), h2.mono fun y p _ r => ?_⟩
  obtain ⟨t, e, ht⟩ := r
  exact ⟨t, e, hid_at ht (fun z => by rw [z, hx] at ht; cases ht)⟩
theorem same_hid {x : Addr} {H H' : Hp} (f : Fr x H H') : Same (hid x H) H' := fun b o e => f b o (hid_of e).2 (hid_of e).1
/-- what __init__ promises: the web stands, or a deed is ahead of itself -/
def sp_web (C CR : Addr) : Sp := fun vs H Q E => ∃ (x l dx : Addr) (n : Nat) (ps : List (Int × Int)), vs = [.ref x, .int n, .ref l] ∧ H x = some (.ins C dx []) ∧ n ≤ 16 ∧ PairsAt H l ps ∧ InR n ps ∧
  ((∀ d, d < n → clos n ps d d = false) → ∀ H' : Hp, Fr x H H' → WebN C H H' x n (clos n ps) → Q .non H') ∧
  ((∃ d, d < n ∧ clos n ps d d = true) → ∀ (i : Int) (H1 : Hp) (d : Addr), Fr x H H1 → H1 d = none → E (.ref CR) (some d) (upd H1 d (.xd [("ring_deed", .int i)])))
theorem Fr.back {x a : Addr} {H G : Hp} (f : Fr x H G) (na : a ≠ x) (e : G a = none) : H a = none := by
  cases e0 : H a with
  | none => rfl
  | some o =>
    have e1 := f a o na e0
    rw [e] at e1
    cases e1
section
variable {P : Program} {w : World} {K : PySem.W.Frag} {mg : Str → Option Value} {base : Heap}
abbrev s_Web_init : Stmt := inClass (topS 12) 0
theorem sc_Web_init : FnScope ["self", "size", "pairs", "deed", "a", "b"] ["self", "size", "pairs"] (defScope s_Web_init) := ⟨rfl, rfl, rfl, by decide +kernel, rfl, by decide +kernel, by decide +kernel⟩
theorem ok_web {C CR fI f : Addr} {fd fdI : FuncData} {dvs : List V} {f_check_parts : Addr} {fd_check_parts : FuncData} {f_closed_masks : Addr} {fd_closed_masks : FuncData} {f_turned_masks : Addr} {fd_turned_masks : FuncData} {f_members : Addr} {fd_members : FuncData}
    (F : FunD K "__init__" "Web.__init__" (defArgs s_Web_init) (defBody s_Web_init) (defScope s_Web_init) dvs [] f fd) (T : Blt mg) (W : WebT K mg C) (R : Err1 P w K mg base "Ring" "ring_deed" CR fI fdI)
    (C_check_parts : Cal K mg "check_parts" f_check_parts fd_check_parts ["size", "pairs"]) (G_check_parts : FnOk P w K mg base CX0 1 f_check_parts fd_check_parts ["size", "pairs"] (sp_check_parts K))
    (C_closed_masks : Cal K mg "closed_masks" f_closed_masks fd_closed_masks ["size", "pairs"]) (G_closed_masks : FnOk P w K mg base CX0 1 f_closed_masks fd_closed_masks ["size", "pairs"] (sp_closed_masks K))
    (C_turned_masks : Cal K mg "turned_masks" f_turned_masks fd_turned_masks ["masks"]) (G_turned_masks : FnOk P w K mg base CX0 2 f_turned_masks fd_turned_masks ["masks"] (sp_turned_masks K))
    (C_members : Cal K mg "members" f_members fd_members ["mask"]) (G_members : FnOk P w K mg base CX0 1 f_members fd_members ["mask"] (sp_members K)) :
    FnOk P w K mg base (L2.CX P w) 3 f fd ["self", "size", "pairs"] (sp_web C CR) := by
  refine F.ok sc_Web_init (fun vs H Q E h => ?_) (fun cdv A outer s H vs Q E hr h => ?_)
  · obtain ⟨_, _, _, _, _, rfl, _⟩ := h
    rfl
  · obtain ⟨x, l, dx, n, ps, rfl, hx, hn, hl, hin, qok, qring⟩ := h
    refine ⟨_, (pss_cons (ps_expr (pe_call G_check_parts (hr.mono (by decide)) (by rfl) C_check_parts.g C_check_parts.kp C_check_parts.b .nil pass0 (pa_cons (pv 1) (pa_cons (pv 2) pa_nil))))
    (pss_cons (ps_fld (pv 0) (pv 1) rfl)
    (pss_cons (ps_fld (pv 0) (pe_call G_closed_masks (hr.mono (by decide)) (by rfl) C_closed_masks.g C_closed_masks.kp C_closed_masks.b .nil pass0 (pa_cons (pv 1) (pa_cons (pv 2) pa_nil))) rfl)
    (pss_cons (ps_fld (pv 0) (pe_call G_turned_masks (hr.mono (by decide)) (by rfl) C_turned_masks.g C_turned_masks.kp C_turned_masks.b .nil pass0 (pa_cons (fldK K (pv 0)) pa_nil)) rfl)
    (pss_cons (ps_for (passes_of rfl) rfl (pi_range1 rfl T.range (pa_cons (pv 1) pa_nil)) (pg_name (i := 3) sc_Web_init.nd rfl (Or.inl rfl))
      (pss_one (ps_if (ptK K (pe_op op_and (pe_op op_shr (pe_ix (ixL K) (fldK K (pv 0)) (pv 3) (fun _ _ => rfl)) (pv 3)) pe_int))
          (pss_one (ps_raise1 rfl R hr (takes_of rfl rfl rfl rfl) (pv 3)))
          pss_nil)))
    (pss_one (ps_fld (pv 0) (pe_lc2 (own := [("a", 4), ("b", 5)]) (vs1 := [5]) (g := gName 4) (g1 := gName 5) (tt := tYes) (tt1 := tYes) rfl sc_Web_init.nd (pi_range1 rfl T.range (pa_cons (pv 1) pa_nil)) (blkOk_by (N := ["self", "size", "pairs", "deed", "a", "b"]) (sc := defScope s_Web_init) (by decide +kernel)) (by decide) (fun _ _ _ _ _ => (pg_name (i := 4) sc_Web_init.nd rfl (Or.inl rfl))) (fun _ _ _ _ _ => pts_nil) (fun _ _ _ _ _ => (piL K (pe_call G_members (hr.mono (by decide)) (by rfl) C_members.g C_members.kp C_members.b .nil pass0 (pa_cons (pe_ix (ixL K) (fldK K (pv 0)) (pv 4) (fun _ _ => rfl)) pa_nil)))) (fun _ _ _ _ _ => (pg_name (i := 5) sc_Web_init.nd rfl (Or.inl rfl))) (fun _ _ _ _ _ => pts_nil) (fun _ _ _ _ _ => (pe_tup (pa_cons (pv 4) (pa_cons (pv 5) pa_nil))))) rfl))))))), ?_⟩
    have hl0 := pairs_hid hx hl
    -- check_parts(size, pairs)
    refine ⟨_, rfl, _, rfl, n, l, ps, rfl, hn, hl, hin, ?_⟩
    -- self.size = size
    refine ⟨_, rfl, _, rfl, x, C, dx, [], rfl, hx, W.cl, W.n_size, (by decide), ?_⟩
    rw [put1]
    have f1 : Fr x H (upd H x (.ins C dx [(("size" : Str), V.int n)])) := Fr.at
    -- self.masks_ahead = closed_masks(size, pairs)
    refine ⟨_, rfl, _, rfl, n, l, ps, rfl, by omega, hl0.keep (keep_same (same_hid f1)), hin, fun ma H2 sm2 fma hma => ?_⟩
    have hx2 : H2 x = some (.ins C dx [(("size" : Str), V.int n)]) := sm2 _ _ upd_same
    refine ⟨_, rfl, x, C, dx, _, rfl, hx2, W.cl, W.n_masks_ahead, (by show 1 < 1000; decide), ?_⟩
    rw [put2]
    have f3 : Fr x H (upd H2 x (.ins C dx [(("size" : Str), V.int n), (("masks_ahead" : Str), V.ref ma)])) := (f1.trans (Fr.of sm2)).trans Fr.at
    have nmx : ma ≠ x := fun z => by
      have h2 : H2 ma = some (.lst (colV n (clos n ps))) := hma
      rw [z, hx2] at h2
      cases h2
    have hma3 : MasksAt (upd H2 x (.ins C dx [(("size" : Str), V.int n), (("masks_ahead" : Str), V.ref ma)])) ma n (clos n ps) := by
      show upd H2 x _ ma = _
      rw [upd_ne nmx]
      exact hma
    -- self.masks_behind = turned_masks(self.masks_ahead)
    refine ⟨_, rfl, x, C, dx, _, _, rfl, upd_same, W.cl, W.n_masks_ahead, rfl, n, ma, clos n ps, rfl, by omega, hma3, fun mb H4 sm4 fmb hmb => ?_⟩
    have hx4 : H4 x = some (.ins C dx [(("size" : Str), V.int n), (("masks_ahead" : Str), V.ref ma)]) := sm4 _ _ upd_same
    refine ⟨_, rfl, x, C, dx, _, rfl, hx4, W.cl, W.n_masks_behind, (by show 2 < 1000; decide), ?_⟩
    rw [put3]
    have f5 : Fr x H (upd H4 x (.ins C dx [(("size" : Str), V.int n), (("masks_ahead" : Str), V.ref ma), (("masks_behind" : Str), V.ref mb)])) := (f3.trans (Fr.of sm4)).trans Fr.at
    have nmbx : mb ≠ x := fun z => by
      have h2 : H4 mb = some (.lst (colV n fun a b => clos n ps b a)) := hmb
      rw [z, hx4] at h2
      cases h2
    generalize hH5 : upd H4 x (.ins C dx [(("size" : Str), V.int n), (("masks_ahead" : Str), V.ref ma), (("masks_behind" : Str), V.ref mb)]) = H5 at f5 ⊢
    have hx5 : H5 x = some (.ins C dx [(("size" : Str), V.int n), (("masks_ahead" : Str), V.ref ma), (("masks_behind" : Str), V.ref mb)]) := by rw [← hH5, upd_same]
    have hma5 : H5 ma = some (.lst (colV n (clos n ps))) := by
      rw [← hH5, upd_ne nmx]
      exact sm4 _ _ hma3
    have hmb5 : H5 mb = some (.lst (colV n fun a b => clos n ps b a)) := by
      rw [← hH5, upd_ne nmbx]
      exact hmb
    -- for deed in range(size)
    refine ⟨_, rfl, _, rfl, (by omega), (by omega), for_range (lo := 0) (n := n) (fun i σ H' => ∃ y3 : Option V, σ = [some (.ref x), some (.int n), some (.ref l), y3, none, none] ∧ H' = H5 ∧ ∀ d, d < i → clos n ps d d = false) ⟨none, rfl, rfl, fun d hd => by omega⟩ ?_ ?_⟩
    · rintro i σ H' hi ⟨y3, rfl, rfl, hno⟩
      refine ⟨_, rfl, x, C, dx, _, _, rfl, hx5, W.cl, W.n_masks_ahead, rfl, _, rfl, _, _, _, _, rfl, rfl, SqL.of hma5, at_zero (colV_get hi), _, rfl, _, _, rfl, rfl, (by show (0 : Int) ≤ 0 + (i : Int); omega), _, _, rfl, rfl, _, rfl, ?_⟩
      rw [shr_bit _ i (show (0 : Int) + (i : Int) = (i : Int) by omega), maskN_bit, decide_eq_true hi, Bool.true_and]
      by_cases c : clos n ps i i = true
      · rw [if_pos c]
        refine iteT ?_
        refine ⟨_, rfl, _, rfl, ?_, fun d hd => ?_⟩
        · exact Nat.lt_of_lt_of_le (show (0 + (i : Int)).natAbs < 2 ^ 5 by omega) (Nat.pow_le_pow_right (by decide) (by decide))
        · exact qring ⟨i, hi, c⟩ _ _ d f5 hd
      · rw [if_neg c]
        refine iteF ⟨_, rfl, rfl, fun d hd => ?_⟩
        by_cases e : d = i
        · rw [e]; exact Bool.not_eq_true _ |>.mp c
        · exact hno d (by omega)
    · rintro σ H' ⟨y3, rfl, rfl, hno⟩
      -- self.pair_rows = [..]
      refine ⟨_, rfl, _, rfl, (by omega), (by omega), fun D hD => lc2_range (lo := 0) (n := n) (fun i H6 => ∃ zs, Same H' H6 ∧ H6 D = some (.lst zs) ∧ Each (PairV H6) zs ((List.range i).flatMap fun (a : Nat) => ((List.range n).filter (clos n ps a)).map fun (b : Nat) => ((a : Int), (b : Int)))) ⟨[], same_new hD, upd_same, Each.nil⟩ ?_ ?_⟩
      · rintro i H6 hi ⟨zs, sm6, hd6, hz⟩
        refine ⟨rfl, ?_⟩
        refine ⟨_, rfl, x, C, dx, _, _, rfl, sm6 _ _ hx5, W.cl, W.n_masks_behind, rfl, _, rfl, _, _, _, _, rfl, rfl, SqL.of (sm6 _ _ hmb5), at_zero (colV_get hi), n, _, rfl, maskN_lt n _, by omega, fun ml H7 sm7 nml hml => ?_⟩
        have hml7 : H7 ml = some (.lst (natV (bitsL n (clos n ps i)))) := by
          have := hml
          rw [bits_mask] at this
          exact this
        have nDm : ml ≠ D := (ne_of_none hd6 nml).symm
        have hpre := aheadP_len (n := n) (M := clos n ps) i
        have hin16 : i * n ≤ 16 * 16 := Nat.mul_le_mul (by omega) hn
        refine ⟨_, rfl, ⟨_, SqL.of hml7⟩, in2_list (xs := natV (bitsL n (clos n ps i))) (fun j H8 => ∃ zs, Same H' H8 ∧ H8 D = some (.lst zs) ∧ H8 ml = some (.lst (natV (bitsL n (clos n ps i)))) ∧
          Each (PairV H8) zs (((List.range i).flatMap fun (a : Nat) => ((List.range n).filter (clos n ps a)).map fun (b : Nat) => ((a : Int), (b : Int))) ++ ((bitsL n (clos n ps i)).take j).map fun (b : Nat) => ((i : Int), (b : Int)))) ?_ ?_ ?_ ?_⟩
        · exact ⟨zs, sm6.trans sm7, sm7 _ _ hd6, hml7, by rw [List.take_zero, List.map_nil, List.append_nil]; exact each_keep (keep_same sm7) hz⟩
        · rintro j H8 ⟨_, _, _, h, _⟩
          exact SqL.of h
        · rintro j v H8 hv ⟨zs, sm8, hd8, hml8, hz8⟩
          obtain ⟨b, hb1, rfl⟩ := natV_of hv
          have hjl : j < (bitsL n (clos n ps i)).length := (List.getElem?_eq_some_iff.mp hb1).1
          have hbl : (bitsL n (clos n ps i)).length ≤ n := Nat.le_trans (List.length_filter_le _ _) (by rw [List.length_range]; exact Nat.le_refl _)
          refine ⟨rfl, ?_⟩
          refine ⟨_, rfl, _, rfl, (by show 2 ≤ sizeLine; decide), fun t nt => ?_⟩
          have nDt : D ≠ t := ne_of_none hd8 nt
          have hdt : (upd H8 t (.tup [.int (0 + (i : Int)), .int (b : Int)])) D = some (.lst zs) := by rw [upd_ne nDt]; exact hd8
          refine ⟨zs, hdt, size_lt ?_, zs ++ [.ref t], same_mut (sm8.trans (same_new nt)) hD, upd_same, ?_, ?_⟩
          · rw [hz8.1, List.length_append, List.length_map, List.length_take]
            omega
          · rw [upd_ne nDm, upd_ne (ne_of_none hml8 nt)]
            exact hml8
          · rw [take_more hb1, List.map_append, ← List.append_assoc]
            refine Each.snoc (each_upd hdt (each_keep (keep_same (same_new nt)) hz8)) (PairV.upd hdt ⟨t, rfl, ?_⟩)
            rw [upd_same, Int.zero_add]
        · rintro H8 ⟨zs, sm8, hd8, hml8, hz8⟩
          refine ⟨zs, sm8, hd8, ?_⟩
          rw [natV_len, List.take_length] at hz8
          rw [List.range_succ, List.flatMap_append, List.flatMap_singleton]
          exact hz8
      · rintro H6 ⟨zs, sm6, hd6, hz⟩
        have hx6 := sm6 _ _ hx5
        refine ⟨_, rfl, x, C, dx, _, rfl, hx6, W.cl, W.n_pair_rows, (by show 3 < 1000; decide), ?_⟩
        rw [put4]
        have nDx : D ≠ x := fun z => by
          rw [z, hx5] at hD
          cases hD
        refine qok hno _ ((f5.trans (Fr.of sm6)).trans Fr.at) ⟨dx, ma, mb, D, upd_same, ?_, ?_, ⟨zs, ?_, ?_⟩, f1.back nmx fma, f3.back nmbx fmb, f5.back nDx hD⟩
        · show upd H6 x _ ma = _
          rw [upd_ne nmx]
          exact sm6 _ _ hma5
        · show upd H6 x _ mb = _
          rw [upd_ne nmbx]
          exact sm6 _ _ hmb5
        · rw [upd_ne nDx]
          exact hd6
        · refine hz.mono fun y p _ r => ?_
          obtain ⟨t, e, ht⟩ := r
          exact ⟨t, e, by rw [upd_ne (fun z => by rw [z, hx6] at ht; cases ht)]; exact ht⟩
end
end Few
set_option maxHeartbeats 4000000
/-! The methods of a web, its lines. -/
namespace Few
open PySem PySem.Spec PyProof.Rows L2
/-- a method as its callers see it -/
structure CalM (K : PySem.W.Frag) (C : Addr) (m : Str) (f : Addr) (fd : FuncData) (ps : List Str) : Prop where
  m : Meth K C m f
  b : Binds K fd ps []
def sp_check_deed (C : Addr) : Sp := fun vs H Q _ => ∃ (x : Addr) (n : Nat) (M : Tb) (d : Nat), vs = [.ref x, .int d] ∧ WebAt C H x n M ∧ d < n ∧ Q .non H
def sp_mask_before (C : Addr) : Sp := fun vs H Q _ => ∃ (x : Addr) (n : Nat) (M : Tb) (d : Nat), vs = [.ref x, .int d] ∧ WebAt C H x n M ∧ d < n ∧ Q (.int ((maskN n (fun a => M a d) : Nat) : Int)) H
def sp_pairs (C : Addr) : Sp := fun vs H Q _ => ∃ (x : Addr) (n : Nat) (M : Tb), vs = [.ref x] ∧ WebAt C H x n M ∧ ∀ (l : Addr) (H' : Hp), Same H H' → H l = none → PairsAt H' l (aheadP n M) → Q (.ref l) H'
/-- all of d's are in S -/
def readyB (n : Nat) (M : Tb) (S : Nat → Bool) (d : Nat) : Bool := ((List.range n).filter fun a => M a d).all fun a => S a
theorem readyB_iff {n : Nat} {M : Tb} {S : Nat → Bool} {d : Nat} : readyB n M S d = true ↔ ∀ a, a < n → M a d = true → S a = true := by
  unfold readyB
  rw [List.all_eq_true]
  constructor
  · intro h a ha hm
    exact h a (List.mem_filter.mpr ⟨List.mem_range.mpr ha, hm⟩)
  · intro h a ha
    rw [List.mem_filter, List.mem_range] at ha
    exact h a ha.1 ha.2
theorem ready_mask (n : Nat) (M : Tb) (S : Nat → Bool) (d : Nat) : decide (((maskN n (fun a => M a d) &&& maskN n S : Nat) : Int) = ((maskN n (fun a => M a d) : Nat) : Int)) = readyB n M S d := by
  rw [maskN_and]
  cases h : readyB n M S d with
  | true =>
    rw [readyB_iff] at h
    refine decide_eq_true ?_
    rw [maskN_congr (g := fun a => M a d)]
    intro a ha
    show (M a d && S a) = M a d
    cases e : M a d with
    | false => rfl
    | true => rw [h a ha e]; rfl
  | false =>
    refine decide_eq_false fun e => ?_
    have e : maskN n (fun x => M x d && S x) = maskN n (fun a => M a d) := by omega
    have : readyB n M S d = true := readyB_iff.mpr fun a ha hm => by
      have k1 := maskN_bit n (fun x => M x d && S x) a
      rw [e, maskN_bit, decide_eq_true ha, hm] at k1
      simpa using k1.symm
    rw [h] at this
    cases this
def sp_is_free (C : Addr) : Sp := fun vs H Q _ => ∃ (x : Addr) (n : Nat) (M : Tb) (S : Nat → Bool) (d : Nat), vs = [.ref x, .int d, .int ((maskN n S : Nat) : Int)] ∧ WebAt C H x n M ∧ d < n ∧ Q (.bl (readyB n M S d)) H
def sp_first_free (C : Addr) : Sp := fun vs H Q _ => ∃ (x l : Addr) (n : Nat) (M : Tb) (S : Nat → Bool) (ds : List Nat) (d : Nat), vs = [.ref x, .ref l, .int ((maskN n S : Nat) : Int)] ∧ WebAt C H x n M ∧ NatsAt H l ds ∧ (∀ y ∈ ds, y < n) ∧ ds.find? (readyB n M S) = some d ∧ Q (.int d) H
section
variable {P : Program} {w : World} {K : PySem.W.Frag} {mg : Str → Option Value} {base : Heap} {C : Addr}
abbrev s_Web_check_deed : Stmt := inClass (topS 12) 10
theorem sc_Web_check_deed : FnScope ["self", "deed"] ["self", "deed"] (defScope s_Web_check_deed) := ⟨rfl, rfl, rfl, by decide +kernel, rfl, by decide +kernel, by decide +kernel⟩
theorem ok_check_deed {f : Addr} {fd : FuncData} (F : Fun K "check_deed" "Web.check_deed" s_Web_check_deed f fd) (T : Blt mg) (W : WebT K mg C) : FnOk P w K mg base CX0 1 f fd ["self", "deed"] (sp_check_deed C) := by
  refine F.ok sc_Web_check_deed (fun vs H Q E h => ?_) (fun cdv A outer s H vs Q E hr h => ?_)
  · obtain ⟨_, _, _, _, rfl, _⟩ := h
    rfl
  · obtain ⟨x, n, M, d, rfl, ⟨dx, ma, mb, pr, hx, hma, hmb, hpr⟩, hd, q⟩ := h
    refine ⟨_, (pss_one (ps_if (PW.pt (pw_or (pt_cmpR op_lt (pv 1) pe_int (nomark _)) (pw_or1 (pt_cmpR op_ge (pv 1) (fldK K (pv 0)) (nomark _)))))
      (pss_one ps_never)
      pss_nil)), ?_⟩
    refine ⟨_, rfl, _, _, rfl, rfl, _, rfl, ?_⟩
    rw [decide_eq_false (show ¬ (d : Int) < 0 by omega)]
    refine iteF ?_
    refine ⟨_, rfl, _, rfl, x, C, dx, _, _, rfl, hx, W.cl, W.n_size, rfl, _, _, rfl, rfl, _, rfl, ?_⟩
    rw [decide_eq_false (show ¬ (n : Int) ≤ (d : Int) by omega)]
    exact iteF q
abbrev s_Web_mask_before : Stmt := inClass (topS 12) 5
theorem sc_Web_mask_before : FnScope ["self", "deed"] ["self", "deed"] (defScope s_Web_mask_before) := ⟨rfl, rfl, rfl, by decide +kernel, rfl, by decide +kernel, by decide +kernel⟩
theorem ok_mask_before {f : Addr} {fd : FuncData} {f_check_deed : Addr} {fd_check_deed : FuncData} (F : Fun K "mask_before" "Web.mask_before" s_Web_mask_before f fd) (T : Blt mg) (W : WebT K mg C)
    (C_check_deed : CalM K C "check_deed" f_check_deed fd_check_deed ["self", "deed"]) (G_check_deed : FnOk P w K mg base CX0 1 f_check_deed fd_check_deed ["self", "deed"] (sp_check_deed C)) : FnOk P w K mg base CX0 2 f fd ["self", "deed"] (sp_mask_before C) := by
  refine F.ok sc_Web_mask_before (fun vs H Q E h => ?_) (fun cdv A outer s H vs Q E hr h => ?_)
  · obtain ⟨_, _, _, _, rfl, _⟩ := h
    rfl
  · obtain ⟨x, n, M, d, rfl, W0, hd, q⟩ := h
    have W1 := W0
    obtain ⟨dx, ma, mb, pr, hx, hma, hmb, hpr⟩ := W1
    have hma0 : H ma = some (.lst (colV n M)) := hma
    refine ⟨_, (pss_cons (ps_expr (pe_meth (pv 0) W.cl C_check_deed.m G_check_deed (hr.mono (by decide)) C_check_deed.b .nil pass0 (pa_cons (pv 1) pa_nil)))
    (pss_one (ps_ret (pe_ix (ixL K) (fldK K (pv 0)) (pv 1) (fun _ _ => rfl))))), ?_⟩
    refine ⟨_, rfl, x, dx, _, rfl, hx, rfl, _, rfl, x, n, M, d, rfl, W0, hd, ?_⟩
    exact ⟨_, rfl, x, C, dx, _, _, rfl, hx, W.cl, W.n_masks_ahead, rfl, _, rfl, _, _, _, _, rfl, rfl, SqL.of hma0, atI_nat (colV_get hd), q⟩
abbrev s_Web_pairs : Stmt := inClass (topS 12) 7
theorem sc_Web_pairs : FnScope ["self"] ["self"] (defScope s_Web_pairs) := ⟨rfl, rfl, rfl, by decide +kernel, rfl, by decide +kernel, by decide +kernel⟩
theorem ok_pairs {f : Addr} {fd : FuncData} (F : Fun K "pairs" "Web.pairs" s_Web_pairs f fd) (T : Blt mg) (W : WebT K mg C) : FnOk P w K mg base CX0 1 f fd ["self"] (sp_pairs C) := by
  refine F.ok sc_Web_pairs (fun vs H Q E h => ?_) (fun cdv A outer s H vs Q E hr h => ?_)
  · obtain ⟨_, _, _, rfl, _⟩ := h
    rfl
  · obtain ⟨x, n, M, rfl, ⟨dx, ma, mb, pr, hx, hma, hmb, ⟨xs, hp1, hp2⟩⟩, q⟩ := h
    refine ⟨_, (pss_one (ps_ret (pe_callTy (listK K) (by rfl) T.list (by decide +kernel) (pa_cons (fldK K (pv 0)) pa_nil)))), ?_⟩
    refine ⟨_, rfl, x, C, dx, _, _, rfl, hx, W.cl, W.n_pair_rows, rfl, _, _, rfl, .inl (SqL.of hp1), fun l nl => ?_⟩
    exact q l _ (same_new nl) nl ⟨xs, upd_same, each_keep (keep_same (same_new nl)) hp2⟩
abbrev s_is_free : Stmt := topS 18
theorem sc_is_free : FnScope ["web", "deed", "done", "ahead"] ["web", "deed", "done"] (defScope s_is_free) := ⟨rfl, rfl, rfl, by decide +kernel, rfl, by decide +kernel, by decide +kernel⟩
theorem ok_is_free {f : Addr} {fd : FuncData} {f_mask_before : Addr} {fd_mask_before : FuncData} (F : Fun K "is_free" "is_free" s_is_free f fd) (T : Blt mg) (W : WebT K mg C)
    (C_mask_before : CalM K C "mask_before" f_mask_before fd_mask_before ["self", "deed"]) (G_mask_before : FnOk P w K mg base CX0 2 f_mask_before fd_mask_before ["self", "deed"] (sp_mask_before C)) : FnOk P w K mg base CX0 3 f fd ["web", "deed", "done"] (sp_is_free C) := by
  refine F.ok sc_is_free (fun vs H Q E h => ?_) (fun cdv A outer s H vs Q E hr h => ?_)
  · obtain ⟨_, _, _, _, _, rfl, _⟩ := h
    rfl
  · obtain ⟨x, n, M, S, d, rfl, W0, hd, q⟩ := h
    have W1 := W0
    obtain ⟨dx, ma, mb, pr, hx, hma, hmb, hpr⟩ := W1
    refine ⟨_, (pss_cons (ps_set (i := 3) sc_is_free.nd rfl (Or.inl rfl) (pe_meth (pv 0) W.cl C_mask_before.m G_mask_before (hr.mono (by decide)) C_mask_before.b .nil pass0 (pa_cons (pv 1) pa_nil)))
    (pss_one (ps_ret (pe_cmpR op_eq (pe_op op_and (pv 3) (pv 2)) (pv 3) (nomark _))))), ?_⟩
    refine ⟨_, rfl, x, dx, _, rfl, hx, rfl, _, rfl, x, n, M, d, rfl, W0, hd, ?_⟩
    refine ⟨_, rfl, _, rfl, _, _, rfl, rfl, _, rfl, rfl, ?_⟩
    have e : decide ((V.int (Builtin.bitAnd ((maskN n (fun a => M a d) : Nat) : Int) ((maskN n S : Nat) : Int))) = V.int ((maskN n (fun a => M a d) : Nat) : Int)) = readyB n M S d := by
      rw [and_nat, ← ready_mask n M S d]
      exact decide_eq_decide.mpr ⟨fun z => by injection z, fun z => by rw [z]⟩
    show Q (V.bl (decide ((V.int (Builtin.bitAnd ((maskN n (fun a => M a d) : Nat) : Int) ((maskN n S : Nat) : Int))) = V.int ((maskN n (fun a => M a d) : Nat) : Int)))) H
    rw [e]
    exact q
abbrev s_first_free : Stmt := topS 19
theorem sc_first_free : FnScope ["web", "deeds", "done", "deed"] ["web", "deeds", "done"] (defScope s_first_free) := ⟨rfl, rfl, rfl, by decide +kernel, rfl, by decide +kernel, by decide +kernel⟩
theorem ok_first_free {f : Addr} {fd : FuncData} {f_is_free : Addr} {fd_is_free : FuncData} (F : Fun K "first_free" "first_free" s_first_free f fd) (T : Blt mg)
    (C_is_free : Cal K mg "is_free" f_is_free fd_is_free ["web", "deed", "done"]) (G_is_free : FnOk P w K mg base CX0 3 f_is_free fd_is_free ["web", "deed", "done"] (sp_is_free C)) : FnOk P w K mg base CX0 4 f fd ["web", "deeds", "done"] (sp_first_free C) := by
  refine F.ok sc_first_free (fun vs H Q E h => ?_) (fun cdv A outer s H vs Q E hr h => ?_)
  · obtain ⟨_, _, _, _, _, _, _, rfl, _⟩ := h
    rfl
  · obtain ⟨x, l, n, M, S, ds, d, rfl, W0, hl, hlt, hfind, q⟩ := h
    refine ⟨_, (pss_cons (ps_for PassesOwn.never rfl (pi_list (pv 1)) (pg_name (i := 3) sc_first_free.nd rfl (Or.inl rfl))
      (pss_one (ps_if (pt_val (pe_call G_is_free (hr.mono (by decide)) (by rfl) C_is_free.g C_is_free.kp C_is_free.b .nil pass0 (pa_cons (pv 0) (pa_cons (pv 3) (pa_cons (pv 2) pa_nil)))))
          (pss_one (ps_ret (pv 3)))
          pss_nil)))
    (pss_one (ps_ret pe_non))), ?_⟩
    refine ⟨_, rfl, _, rfl, ⟨_, SqL.of hl⟩, for_list (xs := natV ds) (fun i σ H1 => ∃ y3 : Option V, σ = [some (.ref x), some (.ref l), some (.int ((maskN n S : Nat) : Int)), y3] ∧ H1 = H ∧ ∀ y ∈ ds.take i, readyB n M S y = false) ⟨none, rfl, rfl, by simp⟩ (fun i σ H1 _ h => ?_) ?_ ?_⟩
    · obtain ⟨_, _, rfl, _⟩ := h
      exact SqL.of hl
    · rintro i v σ H1 hv ⟨y3, rfl, rfl, hno⟩
      obtain ⟨y, hy, rfl⟩ := natV_of hv
      refine ⟨_, rfl, _, rfl, _, rfl, x, n, M, S, y, rfl, W0, hlt y (List.mem_of_getElem? hy), ?_⟩
      refine ⟨_, rfl, ite2 (fun c => ?_) (fun c => ?_)⟩
      · refine ⟨_, rfl, ?_⟩
        have e : d = y := by
          have k := List.find?_eq_some_iff_append.mp hfind
          obtain ⟨k1, as, bs, k2, k3⟩ := k
          have hi : i < ds.length := (List.getElem?_eq_some_iff.mp hy).1
          rcases Nat.lt_trichotomy as.length i with h | h | h
          · have : d ∈ ds.take i := by
              rw [k2]
              apply List.mem_iff_getElem?.mpr
              exact ⟨as.length, by rw [List.getElem?_take, if_pos h, List.getElem?_append_right (Nat.le_refl _), Nat.sub_self] <;> rfl⟩
            rw [hno d this] at k1
            cases k1
          · have : ds[i]? = some d := by rw [k2, ← h, List.getElem?_append_right (Nat.le_refl _), Nat.sub_self] <;> rfl
            rw [hy] at this
            exact (Option.some.inj this).symm
          · have : y ∈ as := by
              rw [k2, List.getElem?_append_left h] at hy
              exact List.mem_of_getElem? hy
            have := k3 y this
            rw [c] at this
            cases this
        rw [← e]
        exact q
      · refine ⟨_, rfl, rfl, fun z hz => ?_⟩
        rw [take_more hy] at hz
        rcases List.mem_append.mp hz with hz | hz
        · exact hno z hz
        · rw [List.mem_singleton] at hz
          rw [hz]
          exact Bool.not_eq_true _ |>.mp c
    · rintro σ H1 ⟨y3, rfl, rfl, hno⟩
      rw [natV_len, List.take_length] at hno
      have k := List.find?_some hfind
      have k2 := List.mem_of_find?_eq_some hfind
      rw [hno d k2] at k
      cases k
end
end Few
set_option maxHeartbeats 4000000
namespace Few
open PySem PySem.Spec PyProof.Rows L2
/-- the least line: the least free deed, again and again -/
def dueL (n : Nat) (M : Tb) : Nat → List Nat
  | 0 => []
  | k + 1 => dueL n M k ++ [(freeL n M (dueL n M k)).headD 0]
theorem due_next {n : Nat} {M : Tb} (hr : Rises n M) {k : Nat} (hk : k < n) (hl : (dueL n M k).length = k) : ∃ d r, freeL n M (dueL n M k) = d :: r ∧ dueL n M (k + 1) = dueL n M k ++ [d] := by
  have h := free_some (done := dueL n M k) hr (by omega)
  obtain ⟨d, r, e⟩ := List.exists_cons_of_ne_nil h
  refine ⟨d, r, e, ?_⟩
  show dueL n M k ++ [(freeL n M (dueL n M k)).headD 0] = _
  rw [e]
  rfl
theorem due_to {n : Nat} {M : Tb} (hr : Rises n M) : ∀ k, k ≤ n → LineTo n M (dueL n M k) ∧ (dueL n M k).length = k
  | 0, _ => ⟨lineTo_nil, rfl⟩
  | k + 1, h => by
    obtain ⟨h1, h2⟩ := due_to hr k (by omega)
    obtain ⟨d, r, e1, e2⟩ := due_next hr (by omega) h2
    rw [e2]
    refine ⟨h1.snoc (by rw [e1]; simp), ?_⟩
    rw [List.length_append, h2]
    rfl
theorem erase_at : ∀ {l : List Nat} {j d : Nat}, l.Nodup → l[j]? = some d → l.eraseIdx j = l.filter fun x => !decide (x = d)
  | [], j, d, _, h => by simp at h
  | a :: l, 0, d, nd, h => by
    have e : a = d := Option.some.inj h
    subst e
    have nd' := List.nodup_cons.mp nd
    rw [List.eraseIdx_cons_zero, List.filter_cons_of_neg (by simp)]
    refine (List.filter_eq_self.mpr fun x hx => ?_).symm
    have : x ≠ a := fun z => nd'.1 (z ▸ hx)
    simpa using this
  | a :: l, j + 1, d, nd, h => by
    have nd' := List.nodup_cons.mp nd
    have hx : l[j]? = some d := h
    have hne : a ≠ d := fun e => nd'.1 (e ▸ List.mem_of_getElem? hx)
    rw [List.eraseIdx_cons_succ, erase_at nd'.2 hx, List.filter_cons_of_pos (by simpa using hne)]
theorem map_erase {α β : Type} (g : α → β) : ∀ (l : List α) (j : Nat), (l.eraseIdx j).map g = (l.map g).eraseIdx j
  | [], _ => rfl
  | a :: l, 0 => rfl
  | a :: l, j + 1 => by
    rw [List.eraseIdx_cons_succ, List.map_cons, List.map_cons, List.eraseIdx_cons_succ, map_erase g l j]
/-- what is left of 0 .. n - 1 -/
def leftL (n : Nat) (L : List Nat) : List Nat := (List.range n).filter fun d => !L.contains d
theorem leftL_nil (n : Nat) : leftL n [] = List.range n := by
  unfold leftL
  exact List.filter_eq_self.mpr fun x _ => rfl
theorem leftL_more (n : Nat) (L : List Nat) (d : Nat) : (leftL n L).filter (fun x => !decide (x = d)) = leftL n (L ++ [d]) := by
  unfold leftL
  rw [List.filter_filter]
  congr 1
  funext x
  by_cases h : x = d
  · subst h
    simp
  · simp [h]
theorem free_left (n : Nat) (M : Tb) (L : List Nat) : freeL n M L = (leftL n L).filter (readyB n M fun a => L.contains a) := by
  unfold freeL leftL
  rw [List.filter_filter]
  congr 1
  funext x
  unfold freeOf readyB
  rw [Bool.and_comm]
theorem mask_snoc {n d : Nat} (L : List Nat) (h : d < n) : maskN n (fun a => L.contains a) ||| 2 ^ d = maskN n (fun a => (L ++ [d]).contains a) := by
  rw [maskN_set h]
  refine maskN_congr fun x _ => ?_
  by_cases e : x = d
  · subst e
    simp
  · simp [e]
theorem first_at : ∀ {l : List Nat} {d : Nat}, d ∈ l → ∃ j : Nat, l[j]? = some d ∧ ∀ m : Nat, m < j → l[m]? ≠ some d
  | [], d, h => by simp at h
  | a :: l, d, h => by
    by_cases e : a = d
    · exact ⟨0, by rw [e] <;> rfl, fun m hm => by omega⟩
    · obtain ⟨j, h1, h2⟩ := first_at (l := l) (d := d) ((List.mem_cons.mp h).resolve_left fun z => e z.symm)
      refine ⟨j + 1, h1, fun m hm => ?_⟩
      cases m with
      | zero => exact fun z => e (Option.some.inj z)
      | succ m => exact h2 m (by omega)
theorem ints_first {l : List Nat} {d j : Nat} (h : ∀ m : Nat, m < j → l[m]? ≠ some d) (m : Nat) (hm : m < j) : (l.map fun (x : Nat) => (x : Int))[m]? ≠ some (d : Int) := by
  rw [List.getElem?_map]
  have k := h m hm
  cases e : l[m]? with
  | none => simp
  | some y =>
    intro z
    have z : ((y : Nat) : Int) = (d : Int) := Option.some.inj z
    exact k (by rw [e]; congr 1; omega)
def sp_greedy (C : Addr) : Sp := fun vs H Q _ => ∃ (x l : Addr) (n : Nat) (M : Tb), vs = [.ref x, .ref l, .int 0] ∧ WebAt C H x n M ∧ n ≤ 16 ∧ Rises n M ∧ NatsAt H l (List.range n) ∧
  ∀ (l' : Addr) (H' : Hp), Same H H' → H l' = none → NatsAt H' l' (dueL n M n) → Q (.ref l') H'
def sp_least_line (C : Addr) : Sp := fun vs H Q _ => ∃ (x : Addr) (n : Nat) (M : Tb), vs = [.ref x] ∧ WebAt C H x n M ∧ n ≤ 16 ∧ Rises n M ∧
  ∀ (l' : Addr) (H' : Hp), Same H H' → H l' = none → NatsAt H' l' (dueL n M n) → Q (.ref l') H'
section
variable {P : Program} {w : World} {K : PySem.W.Frag} {mg : Str → Option Value} {base : Heap} {C : Addr}
abbrev s_greedy_line : Stmt := topS 20
theorem sc_greedy_line : FnScope ["web", "wished", "done", "left", "line", "spare", "deed"] ["web", "wished", "done"] (defScope s_greedy_line) := ⟨rfl, rfl, rfl, by decide +kernel, rfl, by decide +kernel, by decide +kernel⟩
theorem ok_greedy_line {f : Addr} {fd : FuncData} {f_first_free : Addr} {fd_first_free : FuncData} (F : Fun K "greedy_line" "greedy_line" s_greedy_line f fd) (T : Blt mg)
    (C_first_free : Cal K mg "first_free" f_first_free fd_first_free ["web", "deeds", "done"]) (G_first_free : FnOk P w K mg base CX0 4 f_first_free fd_first_free ["web", "deeds", "done"] (sp_first_free C)) : FnOk P w K mg base CX0 5 f fd ["web", "wished", "done"] (sp_greedy C) := by
  refine F.ok sc_greedy_line (fun vs H Q E h => ?_) (fun cdv A outer s H vs Q E hr h => ?_)
  · obtain ⟨_, _, _, _, rfl, _⟩ := h
    rfl
  · obtain ⟨x, l, n, M, rfl, W0, hn, hri, hl, q⟩ := h
    refine ⟨_, (pss_cons (ps_set (i := 3) sc_greedy_line.nd rfl (Or.inl rfl) (pe_callTy (listK K) (by rfl) T.list (by decide +kernel) (pa_cons (pv 1) pa_nil)))
    (pss_cons (ps_set (i := 4) sc_greedy_line.nd rfl (Or.inl rfl) (pe_lst pa_nil))
    (pss_cons (ps_for PassesOwn.never rfl (pi_range1 rfl T.range (pa_cons (pe_callB (lenK K) (by rfl) T.len PySem.boot_len (pa_cons (pv 1) pa_nil)) pa_nil)) (pg_name (i := 5) sc_greedy_line.nd rfl (Or.inl rfl))
      (pss_cons (ps_set (i := 6) sc_greedy_line.nd rfl (Or.inl rfl) (pe_call G_first_free (hr.mono (by decide)) (by rfl) C_first_free.g C_first_free.kp C_first_free.b .nil pass0 (pa_cons (pv 0) (pa_cons (pv 3) (pa_cons (pv 2) pa_nil)))))
        (pss_cons (ps_expr (pe_bm PySem.F.plainAttrs_list PySem.F.slot_list_remove PySem.F.type_list_remove mt_remove (pv 3) (pa_cons (pv 6) pa_nil)))
        (pss_cons (ps_expr (pe_bm PySem.F.plainAttrs_list PySem.F.slot_list_append PySem.F.type_list_append mt_append (pv 4) (pa_cons (pv 6) pa_nil)))
        (pss_one (ps_set (i := 2) sc_greedy_line.nd rfl (Or.inl rfl) (pe_op op_or (pv 2) (pe_op op_shl pe_int (pv 6)))))))))
    (pss_one (ps_ret (pv 4)))))), ?_⟩
    have hl0 : H l = some (.lst (natV (List.range n))) := hl
    refine ⟨_, rfl, _, _, rfl, .inl (SqL.of hl0), fun a na => ?_⟩
    refine ⟨(by show 0 ≤ sizeLine; decide), fun p np => ?_⟩
    have na0 : a ≠ p := ne_of_none upd_same np
    have np0 : H p = none := by rw [upd_ne na0.symm] at np; exact np
    have sm0 : Same H (upd (upd H a (.lst (natV (List.range n)))) p (.lst [])) := (same_new na).trans (same_new np)
    refine ⟨_, rfl, _, _, rfl, .inl (SqL.of (sm0 _ _ hl0)), _, rfl, (by omega), (by rw [natV_len, List.length_range]; omega), for_range (lo := 0) (n := (natV (List.range n)).length) (fun i σ H1 => ∃ (y5 y6 : Option V), σ = [some (.ref x), some (.ref l), some (.int ((maskN n (fun a => (dueL n M i).contains a) : Nat) : Int)), some (.ref a), some (.ref p), y5, y6] ∧ Same H H1 ∧ NatsAt H1 a (leftL n (dueL n M i)) ∧ NatsAt H1 p (dueL n M i))
      ⟨none, none, by rw [show maskN n (fun a => (dueL n M 0).contains a) = 0 from maskN_zero n] <;> rfl, sm0, by rw [show dueL n M 0 = [] from rfl, leftL_nil]; exact (show upd _ p _ a = _ from by rw [upd_ne na0, upd_same]), upd_same⟩ ?_ ?_⟩
    · rintro i σ H1 hi ⟨y5, y6, rfl, sm, ha, hp⟩
      rw [natV_len, List.length_range] at hi
      obtain ⟨hL, hLl⟩ := due_to hri i (by omega)
      obtain ⟨d, r, e1, e2⟩ := due_next hri hi hLl
      have hd : d ∈ freeL n M (dueL n M i) := by rw [e1]; simp
      have hdn := (free_mem.mp hd).1
      have hfind : (leftL n (dueL n M i)).find? (readyB n M fun a => (dueL n M i).contains a) = some d := by
        rw [← List.head?_filter, ← free_left, e1]
        rfl
      have hmem : d ∈ leftL n (dueL n M i) := List.mem_of_find?_eq_some hfind
      have hlt : ∀ y ∈ leftL n (dueL n M i), y < n := fun y hy => List.mem_range.mp (List.mem_filter.mp hy).1
      have nd : (leftL n (dueL n M i)).Nodup := List.nodup_range.filter _
      refine ⟨_, rfl, _, rfl, _, rfl, x, a, n, M, (fun a => (dueL n M i).contains a), _, d, rfl, W0.keep (keep_same sm), ha, hlt, hfind, ?_⟩
      obtain ⟨j, hj1, hj2⟩ := first_at hmem
      have ha1 : H1 a = some (.lst ((((leftL n (dueL n M i)).map fun (x : Nat) => (x : Int))).map V.int)) := by
        rw [← natV_ints]
        exact ha
      refine ⟨_, rfl, .inl ⟨rfl, _, SqL.of ha1⟩, _, rfl, a, _, (d : Int), j, rfl, rfl, ha1, by rw [List.getElem?_map, hj1] <;> rfl, ints_first hj2, ?_⟩
      have hp1 : H1 p = some (.lst (natV (dueL n M i))) := hp
      have hp2 : (upd H1 a (.lst (((((leftL n (dueL n M i)).map fun (x : Nat) => (x : Int))).eraseIdx j).map V.int))) p = some (.lst (natV (dueL n M i))) := by
        rw [upd_ne na0.symm]
        exact hp1
      refine ⟨_, rfl, .inl ⟨rfl, _, SqL.of hp2⟩, _, rfl, _, _, _, rfl, rfl, hp2, (by rw [natV_len]; exact size_lt (by omega)), ?_⟩
      refine ⟨_, rfl, _, rfl, _, _, rfl, rfl, ⟨by omega, by omega, by decide⟩, _, _, rfl, rfl, ?_⟩
      refine ⟨some (.int (0 + (i : Int))), some (.int (d : Int)), ?_, same_mut (same_mut sm na) np0, ?_, ?_⟩
      · rw [e2, ← mask_snoc (dueL n M i) hdn]
        show [some (V.ref x), some (V.ref l), some (V.int (Builtin.bitOr ((maskN n (fun a => (dueL n M i).contains a) : Nat) : Int) (1 * 2 ^ (d : Int).toNat))), some (V.ref a), some (V.ref p), _, _] = _
        rw [or_shl _ d rfl]
      · show upd _ p _ a = _
        rw [upd_ne na0, upd_same, e2, ← leftL_more, ← erase_at nd hj1, natV_ints]
        congr 3
        exact (map_erase _ _ _).symm
      · show upd _ p _ p = _
        rw [upd_same, e2, natV_append]
        rfl
    · rintro σ H1 ⟨y5, y6, rfl, sm, ha, hp⟩
      rw [natV_len, List.length_range] at hp
      exact ⟨_, rfl, q p H1 sm np0 hp⟩
abbrev s_least_line : Stmt := topS 21
theorem sc_least_line : FnScope ["web"] ["web"] (defScope s_least_line) := ⟨rfl, rfl, rfl, by decide +kernel, rfl, by decide +kernel, by decide +kernel⟩
theorem ok_least_line {f : Addr} {fd : FuncData} {f_greedy_line : Addr} {fd_greedy_line : FuncData} (F : Fun K "least_line" "least_line" s_least_line f fd) (T : Blt mg) (W : WebT K mg C)
    (C_greedy_line : Cal K mg "greedy_line" f_greedy_line fd_greedy_line ["web", "wished", "done"]) (G_greedy_line : FnOk P w K mg base CX0 5 f_greedy_line fd_greedy_line ["web", "wished", "done"] (sp_greedy C)) : FnOk P w K mg base CX0 6 f fd ["web"] (sp_least_line C) := by
  refine F.ok sc_least_line (fun vs H Q E h => ?_) (fun cdv A outer s H vs Q E hr h => ?_)
  · obtain ⟨_, _, _, rfl, _⟩ := h
    rfl
  · obtain ⟨x, n, M, rfl, W0, hn, hri, q⟩ := h
    have W1 := W0
    obtain ⟨dx, ma, mb, pr, hx, hma, hmb, hpr⟩ := W1
    refine ⟨_, (pss_one (ps_ret (pe_call G_greedy_line (hr.mono (by decide)) (by rfl) C_greedy_line.g C_greedy_line.kp C_greedy_line.b .nil pass0 (pa_cons (pv 0) (pa_cons (pe_listRg rfl (by rfl) T.list (prg_1 (by rfl) T.range (fldK K (pv 0)))) (pa_cons pe_int pa_nil)))))), ?_⟩
    refine ⟨_, rfl, _, rfl, x, C, dx, _, _, rfl, hx, W.cl, W.n_size, rfl, n, rfl, RgOk.of_le (by omega) (by omega) (by omega) (by omega), fun rl nrl => ?_⟩
    rw [rg_nat]
    have sm := same_new (o := .lst (natV (List.range n))) nrl
    refine ⟨x, rl, n, M, rfl, W0.keep (keep_same sm), hn, hri, upd_same, fun l' H' sm' nl' hl' => ?_⟩
    exact q l' H' (sm.trans sm') (sm.free nl') hl'
end
end Few
set_option maxHeartbeats 4000000
/-! Several except clauses, some with a name, some without. -/
namespace Few
open PySem PySem.Spec PyProof.Rows L2
/-- a clause: its class, the slot of its name if it has one, its suite's reading -/
structure Cls1 where
  c : Value
  i : Option Nat
  ts : Addr → Value → Option Addr → TS
def Cls1.ends (k : Cls1) (D : Ends) : Ends := match k.i with
  | none => D
  | some i => { nx := fun τ G => D.nx (τ.set i none) G, rt := D.rt, bk := fun τ G => D.bk (τ.set i none) G, ct := fun τ G => D.ct (τ.set i none) G }
def Cls1.enter (k : Cls1) (a : Addr) (σ : L2.St) : L2.St := match k.i with
  | none => σ
  | some i => σ.set i (some (.ref a))
def wMix (K : PySem.W.Frag) (Wout : WX) (D : Ends) : List Cls1 → WX
  | [] => Wout
  | k :: r => fun cls d σ H => ∃ b, PySem.W.exmOne K cls k.c = some b ∧ (b = true → ∀ a, H a = none → k.ts a cls d (k.ends D) (k.enter a σ) H) ∧ (b = false → wMix K Wout D r cls d σ H)
/-- what a suite's text must keep -/
def SuiteOk (X : Cx) (suite : List Stmt) (ts : Addr → Value → Option Addr → TS) : Prop :=
  ∀ (a : Addr) (oe : Obj) (cls : Value) (d : Option Addr) (pn : List (Addr × Obj)), Zc cls d oe → (∃ vs, oe.data = .fields vs) → PSs (X.suite a ((a, oe) :: pn)) suite (ts a cls d)
inductive MixOk (X : Cx) : List ExceptHandler → List Cls1 → Prop
  | nil : MixOk X [] []
  | plain {x : Str} {c : Value} {ts : Addr → Value → Option Addr → TS} {b₀ : Stmt} {su : List Stmt} {p1 p2 : Pos} {hds : List ExceptHandler} {l : List Cls1} (hc : Names X x c) (hsu : SuiteOk X (b₀ :: su) ts) (r : MixOk X hds l) :
      MixOk X (.ExceptHandler (some (.Name x p1)) none (b₀ :: su) p2 :: hds) (⟨c, none, ts⟩ :: l)
  | named {x n : Str} {i : Nat} {c : Value} {ts : Addr → Value → Option Addr → TS} {b₀ : Stmt} {su : List Stmt} {p1 p2 : Pos} {hds : List ExceptHandler} {l : List Cls1} (hc : Names X x c) (hi : X.N[i]? = some n) (hl : X.env.kindOf n = some .local) (hsu : SuiteOk X (b₀ :: su) ts) (r : MixOk X hds l) :
      MixOk X (.ExceptHandler (some (.Name x p1)) (some n) (b₀ :: su) p2 :: hds) (⟨c, some i, ts⟩ :: l)
section
variable {X : Cx}
/-- an exception that has landed in the frame: a, over the ground B -/
structure Down (X : Cx) (pins : List (Addr × Obj)) (σ : L2.St) (H : Hp) (sI : Shared) (B : Heap) (a : Addr) (cls : Value) (d : Option Addr) (s : Shared) : Prop where
  J : Inv X pins σ H sI
  nb : ∀ b o, sI.heap.get? b = some o → b ∉ frs X.stack → B.get? b = some o
  up : sI.heap.UpToSlots s.heap
  fl : HandSPX.FlyingZ B (X.env :: X.outer) a (Zc cls d) s.heap
  na : H a = none
  os : s.os = sI.os
  ag : AllBare s.gens
theorem Down.apart {pins : List (Addr × Obj)} {σ : L2.St} {H : Hp} {sI s : Shared} {B : Heap} {a : Addr} {cls : Value} {d : Option Addr} (hf : X.env.frame = some X.env.locals) (g : Down X pins σ H sI B a cls d s) : a ≠ X.env.locals ∧ a ∉ X.fs := by
  obtain ⟨o1, v1, e1, z1, d1⟩ := g.fl.there
  have far : a ∉ frs (X.env :: X.outer) := fun hm => by
    obtain ⟨_, o2, e2, q2⟩ := g.fl.2.2.1.mem hm
    rw [e1] at e2
    cases e2
    exact q2 _ d1
  refine ⟨fun z => far ?_, fun hm => far ?_⟩
  · exact List.mem_filterMap.mpr ⟨X.env, by simp, by rw [hf, z]⟩
  · obtain ⟨e, he, q⟩ := List.mem_filterMap.mp hm
    exact List.mem_filterMap.mpr ⟨e, by simp [he], q⟩
theorem mix_go (hs : X.stack = X.env :: X.outer) (hf : X.env.frame = some X.env.locals) (hN : X.N.Nodup) {Wout : WX} (tk : Takes X Wout) {pins : List (Addr × Obj)} {σ : L2.St} {H : Hp} {sI s : Shared} {B : Heap} {a : Addr} {cls : Value} {d : Option Addr} {D : Ends}
    (g : Down X pins σ H sI B a cls d s) {hds : List ExceptHandler} {l : List Cls1} (hh : MixOk X hds l) (hw : wMix X.K Wout D l cls d σ H) :
    wpAny (model X.prog X.w) X.A (handleBy (.ref a) X.env hds) (SP X pins D) X.xe s := by
  obtain ⟨nL, nF⟩ := g.apart hf
  have ok := g.J.ok
  obtain ⟨o3, v3, e3, z3, d3⟩ := g.fl.there
  have J3 : Inv X pins σ H s := g.J.landed g.nb g.fl.1 g.up g.os g.ag
  have S3 := J3.suite e3 d3 g.na nL nF
  obtain ⟨hp, gg, dd, tt, oo⟩ := s
  induction hh with
  | nil =>
    refine wpAny_handleBy_nil ?_
    obtain ⟨_, _, _, o4, v4, T, _, _, h4, _, h5, h6, _⟩ := id g.fl
    unfold PySem.passOn
    refine wpAny_bind (wpAny_field h4 h5 h6 ?_)
    rw [if_neg (by simp : ¬ ((Value.ref T == Value.none) = true))]
    have out : wpAny (model X.prog X.w) X.A (setFlight (.ref a) X.env.frame) (fun _ u => wpAny (model X.prog X.w) X.A (throw (.ref a) : Sem Flow) (SP X pins D) X.xe u) X.xe ⟨hp, gg, dd, tt, oo⟩ := by
      rw [hf]
      refine HandSPX.setFlight_upZ g.fl fun h7 k7 u7 => wpAny_throw (tk _ _ ?_)
      exact ⟨a, B, sI, pins, σ, H, cls, d, rfl, g.J, g.nb, g.up.trans u7, .inr (.inr (by rw [hs]; exact k7)), g.na, g.os, g.ag, hw⟩
    first
      | exact wpAny_bind (wpAny_pure (wpAny_bind out))
      | exact wpAny_bind out
  | @plain x c ts b₀ su p1 p2 hds l hc hsu r ih =>
    obtain ⟨b, hb, yes, no⟩ := hw
    have hb : PySem.W.exmOne X.K cls c = some b := hb
    refine wpAny_handleBy_cons (codeAny_handlers_test ?_) (by intro q; cases q)
    have L1 : PySem.W.Looks (model X.prog X.w) hp (typeOf (.ref a)) cls := fun _ _ _ _ k q => wpAny_typeOf_ref (k _ _ e3) (by rw [z3.1]; exact q)
    have L2' := PySem.W.exm_one (M := model X.prog X.w) (J3.kIn) L1 hb
    have name : ∀ {Q : Value → Shared → Prop} {E : Value → Shared → Prop}, Q c ⟨hp, gg, dd, tt, oo⟩ → wpAny (model X.prog X.w) (X.A.mark (some (.ref a))) (eval (.Name x p1) X.env) Q E ⟨hp, gg, dd, tt, oo⟩ := fun {Q E} q => by
      rcases hc with ⟨n1, n2, n3 | ⟨n3, n4, n5⟩⟩
      · exact ld_glob (X := X.suite a ((a, o3) :: (X.pn ++ pins))) S3 n1 n3 q n2
      · exact ld_blt (X := X.suite a ((a, o3) :: (X.pn ++ pins))) S3 n1 n3 n4 q n5 n2
    refine name (L2'.here ?_)
    cases b with
    | false => exact ih (no rfl)
    | true =>
      refine codeAny_handlers_suite (HandSPX.lands_againZ g.fl fun h8 f8 u8 => ?_)
      have J8 : Inv X pins σ H ⟨h8, gg, dd, tt, oo⟩ := g.J.landed g.nb f8.1 (g.up.trans u8) g.os g.ag
      obtain ⟨o9, v9, e9, z9, d9⟩ := f8.there
      have S8 := J8.suite e9 d9 g.na nL nF
      refine wpAny_mono ((hsu a o9 cls d (X.pn ++ pins) z9 ⟨_, d9⟩).run [] _ _ H _ S8 (yes rfl a g.na)) (fun fw u hu => ?_) (fun _ _ z => z.elim)
      cases fw with
      | ret w =>
        obtain ⟨y, τ, G, S9, rw', q⟩ := hu
        exact ⟨_, _, _, S9.unsuite ok, rw', q⟩
      | next => exact let ⟨_, _, S9, q⟩ := hu; ⟨_, _, S9.unsuite ok, q⟩
      | brk => exact let ⟨_, _, S9, q⟩ := hu; ⟨_, _, S9.unsuite ok, q⟩
      | cont => exact let ⟨_, _, S9, q⟩ := hu; ⟨_, _, S9.unsuite ok, q⟩
  | @named x n i c ts b₀ su p1 p2 hds l hc hi hl hsu r ih =>
    obtain ⟨b, hb, yes, no⟩ := hw
    have hb : PySem.W.exmOne X.K cls c = some b := hb
    refine wpAny_handleBy_cons (codeAny_handlers_test ?_) (by intro q; cases q)
    have L1 : PySem.W.Looks (model X.prog X.w) hp (typeOf (.ref a)) cls := fun _ _ _ _ k q => wpAny_typeOf_ref (k _ _ e3) (by rw [z3.1]; exact q)
    have L2' := PySem.W.exm_one (M := model X.prog X.w) (J3.kIn) L1 hb
    have name : ∀ {Q : Value → Shared → Prop} {E : Value → Shared → Prop}, Q c ⟨hp, gg, dd, tt, oo⟩ → wpAny (model X.prog X.w) (X.A.mark (some (.ref a))) (eval (.Name x p1) X.env) Q E ⟨hp, gg, dd, tt, oo⟩ := fun {Q E} q => by
      rcases hc with ⟨n1, n2, n3 | ⟨n3, n4, n5⟩⟩
      · exact ld_glob (X := X.suite a ((a, o3) :: (X.pn ++ pins))) S3 n1 n3 q n2
      · exact ld_blt (X := X.suite a ((a, o3) :: (X.pn ++ pins))) S3 n1 n3 n4 q n5 n2
    refine name (L2'.here ?_)
    cases b with
    | false => exact ih (no rfl)
    | true =>
      refine codeAny_handlers_suite_as (HandSPX.lands_againZ g.fl fun h8 f8 u8 => ?_)
      have J8 : Inv X pins σ H ⟨h8, gg, dd, tt, oo⟩ := g.J.landed g.nb f8.1 (g.up.trans u8) g.os g.ag
      obtain ⟨o9, v9, e9, z9, d9⟩ := f8.there
      have S8 := J8.suite e9 d9 g.na nL nF
      refine store_ok (X := X.suite a ((a, o9) :: (X.pn ++ pins))) (v := .ref a) S8 hN hi (.inl hl) rfl (fun u5 S5 => ?_) (.inr hl)
      refine wpAny_mono ((hsu a o9 cls d (X.pn ++ pins) z9 ⟨_, d9⟩).run [] u5 _ H _ S5 (yes rfl a g.na)) (fun fw u hu => ?_) (fun _ _ z => z.elim)
      cases fw with
      | ret w =>
        obtain ⟨y, τ, G, S9, rw', q⟩ := hu
        exact gone_ok (S9.unsuite ok) hN hi hl fun _ J9 => ⟨_, _, _, J9, rw', q⟩
      | next =>
        obtain ⟨τ, G, S9, q⟩ := hu
        exact gone_ok (S9.unsuite ok) hN hi hl fun _ J9 => ⟨_, _, J9, q⟩
      | brk =>
        obtain ⟨τ, G, S9, q⟩ := hu
        exact gone_ok (S9.unsuite ok) hN hi hl fun _ J9 => ⟨_, _, J9, q⟩
      | cont =>
        obtain ⟨τ, G, S9, q⟩ := hu
        exact gone_ok (S9.unsuite ok) hN hi hl fun _ J9 => ⟨_, _, J9, q⟩
theorem ps_try_mix {body : List Stmt} {h₀ : ExceptHandler} {hds : List ExceptHandler} {l : List Cls1} {pos : Pos} {tb : WX → TS} {Wout : WX} (hs : X.stack = X.env :: X.outer) (hf : X.env.frame = some X.env.locals) (hN : X.N.Nodup) (tk : Takes X Wout)
    (hb : ∀ (W : WX) (pn : List (Addr × Obj)) (xe : Value → Shared → Prop), Takes (X.tr pn xe) W → PassesOwn (model X.prog X.w) X.A X.env xe → PSs (X.tr pn xe) body (tb W))
    (hh : MixOk X (h₀ :: hds) l) : PS X (.Try body (h₀ :: hds) [] [] pos) (fun D σ H => tb (wMix X.K Wout D l) D σ H) := by
  refine ⟨fun pins s σ H D I h => wpAny_Try_except ?_⟩
  have ok := I.ok
  have hfr : X.A.frames = some (X.env :: X.outer) := by rw [ok.frames, hs]
  have run := (hb (wMix X.K Wout D l) (X.pn ++ pins) (fun e u => wpAny (model X.prog X.w) X.A (noteFrame e X.env) (fun _ u2 => wpAny (model X.prog X.w) X.A (setFlight e none) (fun _ u3 => wpAny (model X.prog X.w) X.A (handleBy e X.env (h₀ :: hds)) (SP X pins D) X.xe u3) X.xe u2) X.xe u)
    (fun u s' xx => ?_) PassesOwn.looking).run [] s σ H D (I.toTry _) h
  · refine wpAny_mono run (fun fw u hu => ?_) fun _ _ z => z
    cases fw with
    | next => exact let ⟨τ, G, J, q⟩ := hu; wpAny_execs_nil ⟨τ, G, J.ofTry ok, q⟩
    | brk => exact let ⟨τ, G, J, q⟩ := hu; ⟨τ, G, J.ofTry ok, q⟩
    | cont => exact let ⟨τ, G, J, q⟩ := hu; ⟨τ, G, J.ofTry ok, q⟩
    | ret w => exact let ⟨y, τ, G, J, rr, q⟩ := hu; ⟨y, τ, G, J.ofTry ok, rr, q⟩
  · obtain ⟨a, B, sI, pins', τ, G, cls, d, rfl, J', nb, up, sky, na, os, ag, w⟩ := xx
    have J : Inv X pins τ G sI := J'.ofTry ok
    have sky1 : Sky B (X.env :: X.outer) a (Zc cls d) X.env.locals s'.heap := by rw [← hs]; exact sky
    show wpAny (model X.prog X.w) X.A (noteFrame (.ref a) X.env) _ _ _
    exact Sky.land Zc.steady hfr hf sky1 fun h3 fl3 up3 => mix_go (sI := sI) (s := { s' with heap := h3 }) hs hf hN tk ⟨J, nb, up.trans up3, fl3, na, os, ag⟩ hh w
end
end Few
set_option maxHeartbeats 4000000
namespace Few
open PySem PySem.Spec PyProof.Rows L2
/-! ### a class that is made where what its __init__ lets out is wished for at the maker's slots -/
def tMakeS (C : Addr) (sp : Sp) (W : WX) (t : TA) : TE := fun σ H Q => t σ H fun vs G => ∀ x dx, G x = none → G dx = none → dx ≠ x → sp (.ref x :: vs) (upd (upd G dx (.own x)) x (.ins C dx [])) (fun v G2 => v = .non ∧ Q (.ref x) G2) (WE W σ)
section
variable {X : Cx} {W : WX} {k : Nat} {f C : Addr} {fd : FuncData} {ps : List Str} {sp : Sp} {x : Str} {p pos : Pos} {e : Expr} {es : List Expr} {t : TA}
theorem pe_makeS (tk : Takes X W) (M : Mk X.K C f) (F : FnOk X.prog X.w X.K X.mg X.base (L2.CX X.prog X.w) k f fd ps sp) (hr : Room (k + 1) X.A) (hg : Gl X x) (hm : X.mg x = some (.ref C)) (hb : Binds X.K fd ps [])
    (ha : PA X (e :: es) t) (hdb : (x == ("__debug__" : Str)) = false := by decide) (he : starEach (e :: es) X.env = (false, eval e X.env) :: starEach es X.env := by rfl) (hpl : (backTo pos (starEach es X.env)).any (·.1) = false := by rfl) :
    PE X (.Call (.Name x p) (e :: es) [] pos) (tMakeS C sp W t) := by
  refine ⟨fun pins s σ H Q I h => wpAny_Call_Name_kw (ld_glob I hg hm (PySem.W.callWith_K (h₀ := X.base) I.ok.mod.kin M.kp (thn (ha.run pos pins s σ H _ I h) fun us s1 got => ?_) he hpl) hdb)⟩
  obtain ⟨vs, G, J, r, q⟩ := got
  refine ⟨J.kIn, ?_⟩
  have q0 := q (s1.heap.objs.size + 1) s1.heap.objs.size (J.hok.fresh (Nat.le_succ _)) (J.hok.fresh (Nat.le_refl _)) (Nat.ne_of_lt (Nat.lt_succ_self _))
  have J2 := Inv.made (C := C) J
  have r2 : Vals (V.ref (s1.heap.objs.size + 1) :: vs) (Value.ref (s1.heap.objs.size + 1) :: us) := .cons rfl r
  have hlen : ((Value.ref (s1.heap.objs.size + 1) :: us) ++ []).length = ps.length := by
    rw [List.append_nil, ← r2.length]
    exact F.len _ _ _ _ q0
  have bound := hb _ (Value.ref (s1.heap.objs.size + 1) :: us) J2.kIn hlen
  rw [List.append_nil] at bound
  have run := F.run _ X.stack _ _ ⟨Value.ref (s1.heap.objs.size + 1) :: us, []⟩ (Value.ref (s1.heap.objs.size + 1) :: us) _ _ _ (hr.make C us []) (J2.env0.make C us []) bound r2 q0
  refine wpAny_call (make_map (f := f) J.kIn M.makes M.init (beq_iff_eq.mp M.fn) (codeAny_mono run fun res s' back => ?_))
  match res with
  | .error z => exact passAt tk σ pins _ _ z s' J2 back
  | .ok (.ret u) =>
    obtain ⟨v, H', J3, rv, ev, q3⟩ := J2.after back
    subst ev
    exact ⟨rv, V.ref (s1.heap.objs.size + 1), H', J3, rfl, q3⟩
  | .ok .next => exact back.elim
  | .ok .brk => exact back.elim
  | .ok .cont => exact back.elim
end
/-! ### what the pairs must be -/
def Smal (ps : List (Int × Int)) : Prop := ∀ p ∈ ps, p.1.natAbs < 2 ^ 1000 ∧ p.2.natAbs < 2 ^ 1000
theorem bad_none {n : Nat} {p : Int × Int} : badOf n p = none ↔ (0 ≤ p.1 ∧ p.1 < n) ∧ 0 ≤ p.2 ∧ p.2 < n := by
  unfold badOf
  by_cases h1 : 0 ≤ p.1 ∧ p.1 < n
  · rw [if_neg (fun z => z h1)]
    by_cases h2 : 0 ≤ p.2 ∧ p.2 < n
    · rw [if_neg (fun z => z h2)]
      exact ⟨fun _ => ⟨h1, h2⟩, fun _ => rfl⟩
    · rw [if_pos h2]
      exact ⟨fun z => (by cases z), fun z => absurd z.2 h2⟩
  · rw [if_pos h1]
    exact ⟨fun z => (by cases z), fun z => absurd z.1 h1⟩
theorem fault_none {n : Nat} {ps : List (Int × Int)} : faultP n ps = none ↔ InR n ps := by
  unfold faultP InR
  rw [List.findSome?_eq_none_iff]
  exact ⟨fun h p hp => bad_none.mp (h p hp), fun h p hp => bad_none.mpr (h p hp)⟩
def swapP (ps : List (Int × Int)) : List (Int × Int) := ps.map fun p => (p.2, p.1)
/-- the web with all of ps turned -/
def turnM (n : Nat) (M : Tb) (ps : List (Int × Int)) : Tb := clos n (aheadP n M ++ swapP ps)
theorem rises_of {n : Nat} {M : Tb} (ht : ∀ a b c, a < n → b < n → c < n → M a b = true → M b c = true → M a c = true) (hi : ∀ a, a < n → M a a = false) : Rises n M := by
  refine ⟨fun d => ((List.range n).filter fun a => M a d).length, fun a b ha hb hab => ?_⟩
  have nd : (a :: (List.range n).filter fun c => M c a).Nodup := by
    refine List.nodup_cons.mpr ⟨fun h => ?_, List.nodup_range.filter _⟩
    have := (List.mem_filter.mp h).2
    rw [hi a ha] at this
    cases this
  have := nodup_le nd (m := (List.range n).filter fun c => M c b) fun x hx => by
    rcases List.mem_cons.mp hx with rfl | hx
    · exact List.mem_filter.mpr ⟨List.mem_range.mpr ha, hab⟩
    · rw [List.mem_filter, List.mem_range] at hx
      exact List.mem_filter.mpr ⟨List.mem_range.mpr hx.1, ht x a b hx.1 ha hb hx.2 hab⟩
  rw [List.length_cons] at this
  show ((List.range n).filter fun c => M c a).length < ((List.range n).filter fun c => M c b).length
  omega
theorem clos_rises {n : Nat} {ps : List (Int × Int)} (h : ∀ d, d < n → clos n ps d d = false) : Rises n (clos n ps) :=
  rises_of (fun a b c _ hb _ h1 h2 => upto_trans _ n b hb a c h1 h2) h
theorem aheadP_inr {n : Nat} {M : Tb} : InR n (aheadP n M) := fun p hp => by
  obtain ⟨a, b, ha, hb, _, rfl⟩ := aheadP_mem.mp hp
  exact ⟨⟨by omega, by omega⟩, by omega, by omega⟩
theorem swap_inr {n : Nat} {ps : List (Int × Int)} (h : InR n ps) : InR n (swapP ps) := fun p hp => by
  obtain ⟨q, hq, rfl⟩ := List.mem_map.mp hp
  have k := h q hq
  exact ⟨k.2, k.1⟩
theorem InR.app {n : Nat} {ps qs : List (Int × Int)} (h : InR n ps) (k : InR n qs) : InR n (ps ++ qs) := fun p hp => (List.mem_append.mp hp).elim (h p) (k p)
def sp_check_turn (C CB : Addr) : Sp := fun vs H Q E => ∃ (x l : Addr) (n : Nat) (M : Tb) (ps : List (Int × Int)), vs = [.ref x, .ref l] ∧ WebAt C H x n M ∧ PairsAt H l ps ∧ Smal ps ∧ (InR n ps → Q .non H) ∧
  ∀ (z : Int) (d : Addr), faultP n ps = some z → H d = none → E (.ref CB) (some d) (upd H d (.xd [("bad_deed", .int z)]))
def sp_turned_at_once (C CB : Addr) : Sp := fun vs H Q E => ∃ (x l : Addr) (n : Nat) (M : Tb) (ps : List (Int × Int)), vs = [.ref x, .ref l] ∧ WebAt C H x n M ∧ n ≤ 16 ∧ PairsAt H l ps ∧ ps.length ≤ 20000 ∧ Smal ps ∧
  (InR n ps → (∃ d, d < n ∧ turnM n M ps d d = true) → ∀ H', Same H H' → Q .non H') ∧
  (InR n ps → (∀ d, d < n → turnM n M ps d d = false) → ∀ (l' : Addr) (H' : Hp), Same H H' → H l' = none → NatsAt H' l' (dueL n (turnM n M ps) n) → Q (.ref l') H') ∧
  ∀ (z : Int) (d : Addr), faultP n ps = some z → H d = none → E (.ref CB) (some d) (upd H d (.xd [("bad_deed", .int z)]))
section
variable {P : Program} {w : World} {K : PySem.W.Frag} {mg : Str → Option Value} {base : Heap} {C CB CR : Addr}
abbrev s_check_turn_pairs : Stmt := topS 23
theorem sc_check_turn_pairs : FnScope ["web", "pairs", "pair", "deed"] ["web", "pairs"] (defScope s_check_turn_pairs) := ⟨rfl, rfl, rfl, by decide +kernel, rfl, by decide +kernel, by decide +kernel⟩
theorem ok_check_turn_pairs {f fB : Addr} {fd fdB : FuncData} (F : Fun K "check_turn_pairs" "check_turn_pairs" s_check_turn_pairs f fd) (T : Blt mg) (W : WebT K mg C) (B : Err1 P w K mg base "BadDeed" "bad_deed" CB fB fdB) :
    FnOk P w K mg base (L2.CX P w) 3 f fd ["web", "pairs"] (sp_check_turn C CB) := by
  refine F.okX sc_check_turn_pairs (fun vs H Q E h => ?_) (fun cdv A outer s H vs Q E hr h => ?_)
  · obtain ⟨_, _, _, _, _, rfl, _⟩ := h
    rfl
  · obtain ⟨x, l, n, M, ps, rfl, ⟨dx, ma, mb, pr, hx, _⟩, ⟨xs, hl1, hl2⟩, hsm, qok, qbad⟩ := h
    refine ⟨_, (pss_one (ps_for (passes_of rfl) rfl (pi_list (pv 1)) (pg_name (i := 2) sc_check_turn_pairs.nd rfl (Or.inl rfl))
      (pss_one (ps_for (passes_of rfl) rfl (pi_tup (pv 2)) (pg_name (i := 3) sc_check_turn_pairs.nd rfl (Or.inl rfl))
          (pss_one (ps_if (PW.pt (pw_or (pt_cmpR op_lt (pv 3) pe_int (nomark _)) (pw_or1 (pt_cmpR op_ge (pv 3) (fldK K (pv 0)) (nomark _)))))
              (pss_one (ps_raise1 rfl B hr (takes_of rfl rfl rfl rfl) (pv 3)))
              pss_nil)))))), ?_⟩
    refine ⟨_, rfl, _, rfl, ⟨_, SqL.of hl1⟩, for_list (xs := xs) (fun i σ H1 => ∃ y2 y3, σ = [some (.ref x), some (.ref l), y2, y3] ∧ H1 = H ∧ ∀ r ∈ ps.take i, badOf n r = none) ⟨none, none, rfl, rfl, by simp⟩ (fun i σ H1 _ h => ?_) ?_ ?_⟩
    · obtain ⟨_, _, _, rfl, _⟩ := h
      exact SqL.of hl1
    · rintro i v σ H1 hv ⟨y2, y3, rfl, rfl, h0⟩
      obtain ⟨⟨a, b⟩, hp, t, rfl, ht⟩ := hl2.2 i v hv
      have hs := hsm _ (List.mem_of_getElem? hp)
      refine ⟨_, rfl, _, rfl, ⟨_, SqT.of ht⟩, for_tup (xs := [.int a, .int b]) (fun j σ H2 => ∃ y3, σ = [some (.ref x), some (.ref l), some (.ref t), y3] ∧ H2 = H1 ∧ (1 ≤ j → 0 ≤ a ∧ a < n) ∧ (2 ≤ j → 0 ≤ b ∧ b < n)) ⟨_, rfl, rfl, (fun z => by omega), fun z => by omega⟩ (fun j σ H2 _ h => ?_) ?_ ?_⟩
      · obtain ⟨_, _, rfl, _⟩ := h
        exact SqT.of ht
      · rintro j y σ H2 hy ⟨y3, rfl, rfl, hj1, hj2⟩
        have key : ∃ z : Int, y = .int z ∧ z.natAbs < 2 ^ 1000 ∧ (¬ (0 ≤ z ∧ z < n) → badOf n (a, b) = some z) ∧ ((0 ≤ z ∧ z < n) → (1 ≤ j + 1 → 0 ≤ a ∧ a < n) ∧ (2 ≤ j + 1 → 0 ≤ b ∧ b < n)) := by
          match j, hy with
          | 0, hy =>
            refine ⟨a, (Option.some.inj hy).symm, hs.1, fun h => ?_, fun h => ⟨fun _ => h, fun z => by omega⟩⟩
            unfold badOf
            rw [if_pos h]
          | 1, hy =>
            refine ⟨b, (Option.some.inj hy).symm, hs.2, fun h => ?_, fun h => ⟨fun _ => hj1 (by omega), fun _ => h⟩⟩
            unfold badOf
            rw [if_neg (fun z => z (hj1 (by omega))), if_pos h]
          | j + 2, hy => simp at hy
        obtain ⟨z, rfl, hz1, hz2, hz3⟩ := key
        have bad : ¬ (0 ≤ z ∧ z < n) → ∀ d, H2 d = none → E (.ref CB) (some d) (upd H2 d (.xd [("bad_deed", .int z)])) := fun h d hd => qbad z d (fault_take hp h0 (hz2 h)) hd
        refine ⟨_, rfl, _, _, rfl, rfl, _, rfl, ite2 (fun c => ?_) (fun c => ?_)⟩
        · refine iteT ⟨_, rfl, z, rfl, hz1, fun d hd => bad (fun q => ?_) d hd⟩
          have := of_decide_eq_true c
          omega
        · refine ⟨_, rfl, _, rfl, x, C, dx, _, _, rfl, hx, W.cl, W.n_size, rfl, _, _, rfl, rfl, _, rfl, ite2 (fun c2 => ?_) (fun c2 => ?_)⟩
          · refine ⟨_, rfl, z, rfl, hz1, fun d hd => bad (fun q => ?_) d hd⟩
            have := of_decide_eq_true c2
            omega
          · have c := (decide_eq_false_iff_not.mp (Bool.not_eq_true _ |>.mp c))
            have c2 := (decide_eq_false_iff_not.mp (Bool.not_eq_true _ |>.mp c2))
            exact ⟨_, rfl, rfl, hz3 ⟨by omega, by omega⟩⟩
      · rintro σ H2 ⟨y3, rfl, rfl, hj1, hj2⟩
        refine ⟨_, _, rfl, rfl, fun r hr => ?_⟩
        rw [take_more hp] at hr
        rcases List.mem_append.mp hr with hr | hr
        · exact h0 r hr
        · rw [List.mem_singleton] at hr
          rw [hr]
          exact bad_none.mpr ⟨hj1 (by show 1 ≤ 2; decide), hj2 (by show 2 ≤ 2; decide)⟩
    · rintro σ H1 ⟨y2, y3, rfl, rfl, h0⟩
      rw [hl2.1, List.take_length] at h0
      exact qok (fault_none.mp (List.findSome?_eq_none_iff.mpr h0))
abbrev s_turned_at_once : Stmt := topS 24
theorem sc_turned_at_once : FnScope ["web", "pairs", "both", "a", "b"] ["web", "pairs"] (defScope s_turned_at_once) := ⟨rfl, rfl, rfl, by decide +kernel, rfl, by decide +kernel, by decide +kernel⟩
theorem ok_turned_at_once {f : Addr} {fd : FuncData} {f_check_turn_pairs : Addr} {fd_check_turn_pairs : FuncData} {f_least_line : Addr} {fd_least_line : FuncData} {f_Web : Addr} {fd_Web : FuncData} {f_pairs : Addr} {fd_pairs : FuncData} (F : Fun K "turned_at_once" "turned_at_once" s_turned_at_once f fd) (T : Blt mg) (W : WebT K mg C)
    (C_check_turn_pairs : Cal K mg "check_turn_pairs" f_check_turn_pairs fd_check_turn_pairs ["web", "pairs"]) (G_check_turn_pairs : FnOk P w K mg base (L2.CX P w) 3 f_check_turn_pairs fd_check_turn_pairs ["web", "pairs"] (sp_check_turn C CB))
    (C_least_line : Cal K mg "least_line" f_least_line fd_least_line ["web"]) (G_least_line : FnOk P w K mg base CX0 6 f_least_line fd_least_line ["web"] (sp_least_line C))
    (C_Web : Mk K C f_Web) (B_Web : Binds K fd_Web ["self", "size", "pairs"] []) (G_Web : FnOk P w K mg base (L2.CX P w) 3 f_Web fd_Web ["self", "size", "pairs"] (sp_web C CR))
    (C_pairs : CalM K C "pairs" f_pairs fd_pairs ["self"]) (G_pairs : FnOk P w K mg base CX0 1 f_pairs fd_pairs ["self"] (sp_pairs C))
    (gR : mg "Ring" = some (.ref CR)) (xR : PySem.W.exmOne K (.ref CR) (.ref CR) = some true) : FnOk P w K mg base (L2.CX P w) 8 f fd ["web", "pairs"] (sp_turned_at_once C CB) := by
  refine F.okX sc_turned_at_once (fun vs H Q E h => ?_) (fun cdv A outer s H vs Q E hr h => ?_)
  · obtain ⟨_, _, _, _, _, rfl, _⟩ := h
    rfl
  · obtain ⟨x, l, n, M, ps, rfl, W0, hn, hl, hlen, hsm, qring, qline, qbad⟩ := h
    have W1 := W0
    obtain ⟨dx, ma, mb, pr, hx, hma, hmb, hpr⟩ := W1
    refine ⟨_, (pss_cons (ps_expr (pe_callS G_check_turn_pairs (hr.mono (by decide)) (by rfl) C_check_turn_pairs.g C_check_turn_pairs.kp C_check_turn_pairs.b (fun σ => passAt (takes_of rfl rfl rfl rfl) σ) (pa_cons (pv 0) (pa_cons (pv 1) pa_nil))))
      (C8.pss_cut (ps_try_mix (tb := fun W => tAsg (tMakeS C (sp_web C CR) W (tCons (tFld K (tVar 0) "size") (tCons (tOp rCat (tMeth C "pairs" (sp_pairs C) [] E0 (tVar 0) tNil) (tLc (iList K (tVar 1)) (gTup K 2 (gCons (gName 3) (gCons (gName 4) gNil))) tYes (tTup (tCons (tVar 4) (tCons (tVar 3) tNil))) [3, 4])) tNil))) (gName 2)) rfl rfl sc_turned_at_once.nd (takes_of rfl rfl rfl rfl) (fun Wt pn xe tk pso => (pss_one (ps_set (i := 2) sc_turned_at_once.nd rfl (Or.inl rfl) (pe_makeS tk C_Web G_Web (hr.mono (by decide)) (by rfl) W.g B_Web (pa_cons (pe_fld (pv 0) rfl) (pa_cons (pe_op op_cat (pe_meth0 (pv 0) W.cl C_pairs.m G_pairs (hr.mono (by decide)) C_pairs.b .nil pass0) (pe_lc (own := [("a", 3), ("b", 4)]) (g := gTup K 2 (gCons (gName 3) (gCons (gName 4) gNil))) (tt := tYes) rfl sc_turned_at_once.nd (pi_list (pv 1)) (blkOk_by (N := ["web", "pairs", "both", "a", "b"]) (sc := defScope s_turned_at_once) (by decide +kernel)) (fun _ _ _ _ _ => (pg_tup rfl (pgs_cons (pg_name (i := 3) sc_turned_at_once.nd rfl (Or.inl rfl)) (pgs_cons (pg_name (i := 4) sc_turned_at_once.nd rfl (Or.inl rfl)) pgs_nil)))) (fun _ _ _ _ _ => pts_nil) (fun _ _ _ _ _ => (pe_tup (pa_cons (pv 4) (pa_cons (pv 3) pa_nil)))))) pa_nil))))))
        (.plain ⟨rfl, rfl, .inl gR⟩ (fun a oe cls d pn _ _ => (pss_one (ps_ret pe_non))) .nil))
      (pss_one (ps_ret (pe_call G_least_line (hr.mono (by decide)) (by rfl) C_least_line.g C_least_line.kp C_least_line.b .nil pass0 (pa_cons (pv 2) pa_nil)))))), ?_⟩
    -- check_turn_pairs(web, pairs)
    refine ⟨_, rfl, _, rfl, x, l, n, M, ps, rfl, W0, hl, hsm, fun hin => ?_, fun z d hz hd => qbad z d hz hd⟩
    obtain ⟨xs, hl1, hl2⟩ := hl
    refine ⟨fun σ' H' => ∃ (b : Addr) (y3 y4 : Option V), σ' = [some (.ref x), some (.ref l), some (.ref b), y3, y4] ∧ Same H H' ∧ WebAt C H' b n (turnM n M ps) ∧ ∀ d, d < n → turnM n M ps d d = false, ?_, ?_⟩
    · refine ⟨_, rfl, x, C, dx, _, _, rfl, hx, W.cl, W.n_size, rfl, _, rfl, x, dx, _, rfl, hx, rfl, x, n, M, rfl, W0, fun l1 H1 sm1 nl1 hp1 => ?_⟩
      refine ⟨_, rfl, _, rfl, ⟨_, SqL.of (sm1 _ _ hl1)⟩, fun D hD => lc_list (xs := xs) (fun i H2 => ∃ zs, H2 D = some (.lst zs) ∧ Same H1 H2 ∧ Each (PairV H2) zs (swapP (ps.take i))) ⟨[], upd_same, same_new hD, Each.nil⟩ (fun i H2 _ h => ?_) ?_ ?_⟩
      · obtain ⟨_, _, h, _⟩ := h
        exact SqL.of (h _ _ (sm1 _ _ hl1))
      · rintro i v H2 hv ⟨zs, hz, sm2, hzs⟩
        obtain ⟨⟨a, b⟩, hp, t, rfl, ht⟩ := hl2.2 i v hv
        have ht2 := sm2 _ _ (sm1 _ _ ht)
        have hi : i < ps.length := (List.getElem?_eq_some_iff.mp hp).1
        refine ⟨t, _, rfl, SqT.of ht2, rfl, _, _, rfl, _, _, rfl, rfl, ?_⟩
        refine ⟨rfl, _, rfl, _, rfl, (by show 2 ≤ sizeLine; decide), fun u nu => ?_⟩
        have nD : D ≠ u := ne_of_none hz nu
        have hzu : (upd H2 u (.tup [.int b, .int a])) D = some (.lst zs) := by rw [upd_ne nD]; exact hz
        refine ⟨zs, hzu, size_lt (by rw [hzs.1]; unfold swapP; rw [List.length_map, List.length_take]; omega), zs ++ [.ref u], upd_same, same_mut (sm2.trans (same_new nu)) hD, ?_⟩
        rw [take_more hp]
        unfold swapP
        rw [List.map_append]
        exact Each.snoc (each_upd hzu (each_keep (keep_same (same_new nu)) hzs)) (PairV.upd hzu ⟨u, rfl, upd_same⟩)
      · rintro H2 ⟨zs, hz, sm2, hzs⟩
        rw [hl2.1, List.take_length] at hzs
        obtain ⟨ys, hy1, hy2⟩ := hp1.keep (keep_same sm2)
        refine ⟨_, _, _, _, rfl, rfl, hy1, hz, ?_, fun q nq => ?_⟩
        · rw [hy2.1, hzs.1]
          unfold swapP
          rw [List.length_map]
          have k := aheadP_len (n := n) (M := M) n
          have : n * n ≤ 16 * 16 := Nat.mul_le_mul hn hn
          exact size_le (by unfold aheadP; omega)
        · intro b db nb ndb hne
          have sm3 : Same H (upd H2 q (.lst (ys ++ zs))) := sm1.trans (sm2.trans (same_new nq))
          have s4 : Same (upd H2 q (.lst (ys ++ zs))) (upd (upd (upd H2 q (.lst (ys ++ zs))) db (.own b)) b (.ins C db [])) := (same_new ndb).trans (same_new (by rw [upd_ne hne.symm]; exact nb))
          have e4 : Each (PairV (upd H2 q (.lst (ys ++ zs)))) (ys ++ zs) (aheadP n M ++ swapP ps) := each_keep (keep_same (same_new nq)) (hy2.append hzs)
          refine ⟨b, q, db, n, aheadP n M ++ swapP ps, rfl, upd_same, hn, ⟨_, s4 _ _ upd_same, each_keep (keep_same s4) e4⟩, aheadP_inr.app (swap_inr hin), fun hno H5 f5 w5 => ?_, fun hri i H5 d f5 hd => ?_⟩
          · refine ⟨rfl, b, _, _, rfl, fun c o e => f5 c o (fun z => ?_) (s4 _ _ (sm3 _ _ e)), w5.at_, hno⟩
            rw [z, sm3.free nb] at e
            cases e
          · refine ⟨true, xR, fun _ a ha => ?_, fun z => by cases z⟩
            refine qring hin hri _ fun c o e => ?_
            have hc : H5 c = some o := f5 c o (fun z => by rw [z, sm3.free nb] at e; cases e) (s4 _ _ (sm3 _ _ e))
            rw [upd_ne (ne_of_none hc hd)]
            exact hc
    · rintro σ' H' ⟨b, y3, y4, rfl, sm, wb, hno⟩
      refine ⟨_, rfl, b, n, _, rfl, wb, hn, clos_rises hno, fun l' H2 sm2 nl hl' => ?_⟩
      exact qline hin hno l' H2 (sm.trans sm2) (sm.free nl) hl'
end
end Few
/-! The first of all lines that turns what is asked is the least line of the turned web. -/
namespace Few
open PySem PySem.Spec PyProof.Rows L2
theorem find_same {α : Type} {p q : α → Bool} : ∀ {l : List α}, (∀ x ∈ l, p x = q x) → l.find? p = l.find? q
  | [], _ => rfl
  | a :: l, h => by
    rw [List.find?_cons, List.find?_cons, h a (by simp), find_same fun x hx => h x (List.mem_cons_of_mem _ hx)]
theorem some_find {α β : Type} {p : α → Bool} {g : α → Option β} {h : α → β} : ∀ {l : List α}, (∀ x ∈ l, g x = if p x = true then some (h x) else none) → l.findSome? g = (l.find? p).map h
  | [], _ => rfl
  | a :: l, e => by
    rw [List.findSome?_cons, List.find?_cons, e a (by simp)]
    cases hp : p a with
    | true => rfl
    | false =>
      rw [if_neg (by decide)]
      exact some_find fun x hx => e x (List.mem_cons_of_mem _ hx)
theorem find_map' {α β : Type} {p : β → Bool} {g : α → β} : ∀ l : List α, (l.map g).find? p = (l.find? fun x => p (g x)).map g
  | [] => rfl
  | a :: l => by
    rw [List.map_cons, List.find?_cons, List.find?_cons]
    cases hp : p (g a) with
    | true => rfl
    | false => exact find_map' l
theorem find_flat {α β : Type} {p : β → Bool} {g : α → List β} : ∀ l : List α, (l.flatMap g).find? p = l.findSome? fun x => (g x).find? p
  | [] => rfl
  | a :: l => by
    rw [List.flatMap_cons, List.find?_append, List.findSome?_cons, find_flat l]
    cases (g a).find? p <;> rfl
theorem idx_get {l : List Nat} {x : Nat} (h : x ∈ l) : l[l.idxOf x]? = some x := by
  induction l with
  | nil => simp at h
  | cons a l ih =>
    by_cases e : a = x
    · subst e
      rw [List.idxOf_cons_self] <;> rfl
    · have hb : (a == x) = false := by simpa using e
      rw [List.idxOf_cons, hb]
      show l[l.idxOf x]? = some x
      exact ih ((List.mem_cons.mp h).resolve_left fun z => e z.symm)
theorem before_of {R : Nat → Nat → Prop} {l : List Nat} (hp : l.Pairwise R) {x y : Nat} (hx : x ∈ l) (hy : y ∈ l) (h : l.idxOf x < l.idxOf y) : R x y := by
  have kx := idx_get hx
  have ky := idx_get hy
  obtain ⟨h1, e1⟩ := List.getElem?_eq_some_iff.mp kx
  obtain ⟨h2, e2⟩ := List.getElem?_eq_some_iff.mp ky
  have := List.pairwise_iff_getElem.mp hp _ _ h1 h2 h
  rw [e1, e2] at this
  exact this
theorem idx_inj {l : List Nat} {x y : Nat} (hx : x ∈ l) (hy : y ∈ l) (h : l.idxOf x = l.idxOf y) : x = y := by
  have kx := idx_get hx
  have ky := idx_get hy
  rw [h, ky] at kx
  exact (Option.some.inj kx).symm
theorem Pairwise.of_idx {R : Nat → Nat → Prop} {l : List Nat} (nd : l.Nodup) (h : ∀ x ∈ l, ∀ y ∈ l, l.idxOf x < l.idxOf y → R x y) : l.Pairwise R := by
  refine List.pairwise_iff_getElem.mpr fun i j hi hj hij => ?_
  have e1 := idx_at nd (List.getElem?_eq_getElem hi)
  have e2 := idx_at nd (List.getElem?_eq_getElem hj)
  exact h _ (List.getElem_mem hi) _ (List.getElem_mem hj) (by omega)
/-- a line has each b ahead of its a -/
def turnsB (ps : List (Int × Int)) (ds : List Nat) : Bool := ps.all fun p => decide (ds.idxOf p.2.toNat < ds.idxOf p.1.toNat)
theorem turnM_le {n : Nat} {M : Tb} {ps : List (Int × Int)} {a b : Nat} (ha : a < n) (hb : b < n) (h : M a b = true) : turnM n M ps a b = true :=
  upto_le _ n a b (decide_eq_true (List.mem_append_left _ (aheadP_mem.mpr ⟨a, b, ha, hb, h, rfl⟩)))
theorem turnM_turn {n : Nat} {M : Tb} {ps : List (Int × Int)} {p : Int × Int} (hp : p ∈ ps) (hin : InR n ps) : turnM n M ps p.2.toNat p.1.toNat = true := by
  have k := hin p hp
  refine upto_le _ n _ _ (decide_eq_true (List.mem_append_right _ (List.mem_map.mpr ⟨p, hp, ?_⟩)))
  rw [Int.toNat_of_nonneg k.2.1, Int.toNat_of_nonneg k.1.1]
theorem turnM_least {n : Nat} {M : Tb} {ps : List (Int × Int)} {R : Nat → Nat → Prop} (h1 : ∀ a b, a < n → b < n → M a b = true → R a b) (h2 : ∀ p ∈ ps, R p.2.toNat p.1.toNat) (ht : ∀ a b c, R a b → R b c → R a c) (a b : Nat) (h : turnM n M ps a b = true) : R a b := by
  refine upto_least (M := initM (aheadP n M ++ swapP ps)) (fun x y hxy => ?_) ht n a b h
  rcases List.mem_append.mp (of_decide_eq_true hxy) with q | q
  · obtain ⟨u, v, hu, hv, hm, e⟩ := aheadP_mem.mp q
    injection e with e1 e2
    have e1 : x = u := by omega
    have e2 : y = v := by omega
    subst e1 e2
    exact h1 _ _ hu hv hm
  · obtain ⟨p, hp, e⟩ := List.mem_map.mp q
    injection e with e1 e2
    have k := h2 p hp
    rw [e1, e2, Int.toNat_natCast, Int.toNat_natCast] at k
    exact k
theorem LineOf.mem {n : Nat} {M : Tb} {ds : List Nat} (h : LineOf n M ds) {d : Nat} : d ∈ ds ↔ d < n := by rw [h.perm.mem_iff, List.mem_range]
theorem LineOf.nd {n : Nat} {M : Tb} {ds : List Nat} (h : LineOf n M ds) : ds.Nodup := h.perm.nodup_iff.mpr List.nodup_range
theorem Rises.irr {n : Nat} {M : Tb} (h : Rises n M) {a : Nat} (ha : a < n) : M a a = false := by
  obtain ⟨r, h⟩ := h
  cases e : M a a with
  | false => rfl
  | true => exact absurd (h a a ha ha e) (Nat.lt_irrefl _)
theorem LineOf.idx {n : Nat} {M : Tb} {ds : List Nat} (h : LineOf n M ds) (hr : Rises n M) {a b : Nat} (ha : a < n) (hb : b < n) (hm : M a b = true) : ds.idxOf a < ds.idxOf b := by
  rcases Nat.lt_trichotomy (ds.idxOf a) (ds.idxOf b) with k | k | k
  · exact k
  · have := idx_inj (h.mem.mpr ha) (h.mem.mpr hb) k
    subst this
    rw [hr.irr ha] at hm
    cases hm
  · have : M a b = false := before_of h.ord (h.mem.mpr hb) (h.mem.mpr ha) k
    rw [this] at hm
    cases hm
theorem linesL_to {n : Nat} {M : Tb} : ∀ k, ∀ d ∈ linesL n M k, LineTo n M d
  | 0, d, h => by
    have e : d = [] := by simpa [linesL] using h
    rw [e]
    exact lineTo_nil
  | k + 1, d, h => by
    have h : d ∈ nextL n M (linesL n M k) := h
    unfold nextL at h
    rw [List.mem_flatMap] at h
    obtain ⟨e, he, h⟩ := h
    rw [List.mem_map] at h
    obtain ⟨x, hx, rfl⟩ := h
    exact (linesL_to k e he).snoc hx
theorem linesL_of {n : Nat} {M : Tb} {d : List Nat} (h : d ∈ linesL n M n) : LineOf n M d := (linesL_to n d h).full (linesL_mem n d h)
theorem turns_idx {n : Nat} {M : Tb} {ps : List (Int × Int)} {ds : List Nat} (hr : Rises n M) (hl : LineOf n M ds) (ht : turnsB ps ds = true) (a b : Nat) (h : turnM n M ps a b = true) : ds.idxOf a < ds.idxOf b :=
  turnM_least (R := fun x y => ds.idxOf x < ds.idxOf y) (fun x y hx hy hm => hl.idx hr hx hy hm) (fun p hp => of_decide_eq_true (List.all_eq_true.mp ht p hp)) (fun _ _ _ h1 h2 => Nat.lt_trans h1 h2) a b h
/-- with a ring no line turns all -/
theorem first_ring {n : Nat} {M : Tb} {ps : List (Int × Int)} (hr : Rises n M) {d : Nat} (h : turnM n M ps d d = true) : (linesL n M n).find? (turnsB ps) = none := by
  rw [List.find?_eq_none]
  intro ds hds ht
  exact Nat.lt_irrefl _ (turns_idx hr (linesL_of hds) ht d d h)
noncomputable def goodB (n : Nat) (T : Tb) (L : List Nat) : Bool := @decide (LineTo n T L) (Classical.propDecidable _)
theorem goodB_iff {n : Nat} {T : Tb} {L : List Nat} : goodB n T L = true ↔ LineTo n T L := by
  unfold goodB
  exact @decide_eq_true_iff _ (Classical.propDecidable _)
theorem LineTo.init {n : Nat} {T : Tb} {d : List Nat} {x : Nat} (hr : Rises n T) (h : LineTo n T (d ++ [x])) : LineTo n T d ∧ x ∈ freeL n T d := by
  have hp := List.pairwise_append.mp h.ord
  have hn := List.nodup_append.mp h.nd
  refine ⟨⟨hn.1, fun e he => h.lt e (List.mem_append_left _ he), hp.1, fun e he a ha hT => ?_⟩, free_mem.mpr ⟨h.lt x (by simp), fun hx => hn.2.2 x hx x (by simp) rfl, fun a ha hT => ?_⟩⟩
  · rcases List.mem_append.mp (h.down e (List.mem_append_left _ he) a ha hT) with k | k
    · exact k
    · rw [List.mem_singleton] at k
      have := hp.2.2 e he x (by simp)
      rw [k, this] at hT
      cases hT
  · rcases List.mem_append.mp (h.down x (by simp) a ha hT) with k | k
    · exact k
    · rw [List.mem_singleton] at k
      rw [k, hr.irr (h.lt x (by simp))] at hT
      cases hT
theorem good_next {n : Nat} {M T : Tb} (hMT : ∀ a b, a < n → b < n → M a b = true → T a b = true) (hr : Rises n T) {d : List Nat} (hl : d.length < n) :
    ((freeL n M d).map fun x => d ++ [x]).find? (goodB n T) = if goodB n T d = true then some (d ++ [(freeL n T d).headD 0]) else none := by
  rw [find_map']
  by_cases hg : goodB n T d = true
  · rw [if_pos hg]
    have hd := goodB_iff.mp hg
    have e : freeL n T d = (freeL n M d).filter fun x => goodB n T (d ++ [x]) := by
      unfold freeL
      rw [List.filter_filter]
      refine List.filter_congr fun x hx => ?_
      have hx := List.mem_range.mp hx
      have k1 : freeOf n T d x = true ↔ x ∈ freeL n T d := by
        unfold freeL
        rw [List.mem_filter, List.mem_range]
        exact ⟨fun h => ⟨hx, h⟩, fun h => h.2⟩
      have k2 : freeOf n M d x = true ↔ x ∈ freeL n M d := by
        unfold freeL
        rw [List.mem_filter, List.mem_range]
        exact ⟨fun h => ⟨hx, h⟩, fun h => h.2⟩
      rw [Bool.eq_iff_iff, Bool.and_eq_true, k1, k2, goodB_iff]
      constructor
      · intro h
        refine ⟨hd.snoc h, ?_⟩
        rw [free_mem] at h ⊢
        exact ⟨h.1, h.2.1, fun a ha hm => h.2.2 a ha (hMT a x ha hx hm)⟩
      · intro h
        exact (h.1.init hr).2
    obtain ⟨y, r, e2⟩ := List.exists_cons_of_ne_nil (free_some (done := d) hr hl)
    rw [e2, ← List.head?_filter, ← e, e2]
    rfl
  · rw [if_neg hg, List.find?_eq_none.mpr fun x _ h => hg (goodB_iff.mpr ((goodB_iff.mp h).init hr).1)]
    rfl
theorem lines_due {n : Nat} {M T : Tb} (hMT : ∀ a b, a < n → b < n → M a b = true → T a b = true) (hr : Rises n T) : ∀ k, k ≤ n → (linesL n M k).find? (goodB n T) = some (dueL n T k)
  | 0, _ => by
    show List.find? (goodB n T) [[]] = some []
    rw [List.find?_cons, goodB_iff.mpr lineTo_nil]
  | k + 1, h => by
    show ((linesL n M k).flatMap fun d => (freeL n M d).map fun x => d ++ [x]).find? (goodB n T) = _
    rw [find_flat, some_find (p := goodB n T) (h := fun d => d ++ [(freeL n T d).headD 0]) fun d hd => good_next hMT hr (by rw [linesL_mem k d hd]; omega), lines_due hMT hr k (by omega)]
    rfl
/-- with no ring the first line that turns all is the least line of the turned web -/
theorem first_due {n : Nat} {M : Tb} {ps : List (Int × Int)} (hr : Rises n M) (hin : InR n ps) (hno : ∀ d, d < n → turnM n M ps d d = false) : (linesL n M n).find? (turnsB ps) = some (dueL n (turnM n M ps) n) := by
  rw [← lines_due (M := M) (T := turnM n M ps) (fun a b ha hb h => turnM_le ha hb h) (clos_rises hno) n (Nat.le_refl _)]
  refine find_same fun ds hds => ?_
  have hl := linesL_of hds
  rw [Bool.eq_iff_iff, goodB_iff]
  constructor
  · intro ht
    have hix := turns_idx hr hl ht
    refine ⟨hl.nd, fun d hd => hl.mem.mp hd, Pairwise.of_idx hl.nd fun x hx y hy hxy => ?_, fun d _ a ha _ => hl.mem.mpr ha⟩
    cases e : turnM n M ps y x with
    | false => rfl
    | true =>
      have := hix y x e
      omega
  · intro hg
    refine List.all_eq_true.mpr fun p hp => decide_eq_true ?_
    have k := hin p hp
    have hT := turnM_turn (M := M) hp hin
    have h1 : p.1.toNat < n := by omega
    have h2 : p.2.toNat < n := by omega
    rcases Nat.lt_trichotomy (ds.idxOf p.2.toNat) (ds.idxOf p.1.toNat) with q | q | q
    · exact q
    · have := idx_inj (hl.mem.mpr h2) (hl.mem.mpr h1) q
      rw [this, hno _ h1] at hT
      cases hT
    · have : turnM n M ps p.2.toNat p.1.toNat = false := before_of hg.ord (hl.mem.mpr h1) (hl.mem.mpr h2) q
      rw [this] at hT
      cases hT
end Few
set_option maxHeartbeats 4000000
namespace Few
open PySem PySem.Spec PyProof.Rows L2
theorem idx_first {l : List Nat} {x : Nat} (nd : l.Nodup) (m : Nat) (hm : m < l.idxOf x) : l[m]? ≠ some x := fun e => by
  have := idx_at nd e
  omega
theorem at0 {x : V} {xs : List V} : atI (x :: xs) 0 = some x := atI_nat (j := 0) rfl
def sp_due (_ : PySem.W.Frag) : Sp := fun vs H Q _ => ∃ (p l : Addr) (n : Nat) (M : Tb) (ps : List (Int × Int)), vs = [.ref p, .ref l] ∧ RowsAt H p n M ∧ n ≤ 16 ∧ PairsAt H l ps ∧ ps.length ≤ 20000 ∧ InR n ps ∧
  ((∃ d, d < n ∧ turnM n M ps d d = true) → ∀ H', Same H H' → Q .non H') ∧
  ((∀ d, d < n → turnM n M ps d d = false) → ∀ (l' : Addr) (H' : Hp), Same H H' → H l' = none → NatsAt H' l' (dueL n (turnM n M ps) n) → Q (.ref l') H')
def sp_first_line (_ : PySem.W.Frag) : Sp := fun vs H Q _ => ∃ (p l : Addr) (n : Nat) (M : Tb) (ps : List (Int × Int)), vs = [.ref p, .ref l] ∧ RowsAt H p n M ∧ n ≤ 5 ∧ PairsAt H l ps ∧ ps.length ≤ 20000 ∧ InR n ps ∧
  ((linesL n M n).find? (turnsB ps) = none → ∀ H', Same H H' → Q .non H') ∧
  ∀ (ds : List Nat), (linesL n M n).find? (turnsB ps) = some ds → ∀ (l' : Addr) (H' : Hp), Same H H' → NatsAt H' l' ds → Q (.ref l') H'
section
variable {P : Program} {w : World} {K : PySem.W.Frag} {mg : Str → Option Value} {base : Heap}
abbrev s_due : Stmt := topS 43
theorem sc_due : FnScope ["rows", "pairs", "turned_rows", "line", "step", "a", "b"] ["rows", "pairs"] (defScope s_due) := ⟨rfl, rfl, rfl, by decide +kernel, rfl, by decide +kernel, by decide +kernel⟩
theorem ok_due {f : Addr} {fd : FuncData} {f_closure : Addr} {fd_closure : FuncData} {f_ring : Addr} {fd_ring : FuncData} {f_ahead_pairs : Addr} {fd_ahead_pairs : FuncData} {f_free : Addr} {fd_free : FuncData} (F : Fun K "_law_due" "_law_due" s_due f fd) (T : Blt mg) (C_closure : Cal K mg "_law_closure" f_closure fd_closure ["size", "pairs"]) (G_closure : FnOk P w K mg base CX0 1 f_closure fd_closure ["size", "pairs"] (sp_closure K)) (C_ring : Cal K mg "_law_ring" f_ring fd_ring ["rows"]) (G_ring : FnOk P w K mg base CX0 1 f_ring fd_ring ["rows"] (sp_ring K)) (C_ahead_pairs : Cal K mg "_law_ahead_pairs" f_ahead_pairs fd_ahead_pairs ["rows"]) (G_ahead_pairs : FnOk P w K mg base CX0 1 f_ahead_pairs fd_ahead_pairs ["rows"] (sp_ahead_pairs K)) (C_free : Cal K mg "_law_free" f_free fd_free ["rows", "done"]) (G_free : FnOk P w K mg base CX0 1 f_free fd_free ["rows", "done"] (sp_free K)) : FnOk P w K mg base CX0 2 f fd ["rows", "pairs"] (sp_due K) := by
  refine F.ok sc_due (fun vs H Q E h => ?_) (fun cdv A outer s H vs Q E hr h => ?_)
  · obtain ⟨_, _, _, _, _, rfl, _⟩ := h
    rfl
  · obtain ⟨p, l, n, M, ps, rfl, hR, hn, ⟨xs, hl1, hl2⟩, hlen, hin, qring, qline⟩ := h
    refine ⟨_, (pss_cons (ps_set (i := 2) sc_due.nd rfl (Or.inl rfl) (pe_call G_closure (hr.mono (by decide)) (by rfl) C_closure.g C_closure.kp C_closure.b .nil pass0 (pa_cons (pe_callB (lenK K) (by rfl) T.len PySem.boot_len (pa_cons (pv 0) pa_nil)) (pa_cons (pe_op op_cat (pe_call G_ahead_pairs (hr.mono (by decide)) (by rfl) C_ahead_pairs.g C_ahead_pairs.kp C_ahead_pairs.b .nil pass0 (pa_cons (pv 0) pa_nil)) (pe_lc (own := [("a", 5), ("b", 6)]) (g := gTup K 2 (gCons (gName 5) (gCons (gName 6) gNil))) (tt := tYes) rfl sc_due.nd (pi_list (pv 1)) (blkOk_by (N := ["rows", "pairs", "turned_rows", "line", "step", "a", "b"]) (sc := defScope s_due) (by decide +kernel)) (fun _ _ _ _ _ => (pg_tup rfl (pgs_cons (pg_name (i := 5) sc_due.nd rfl (Or.inl rfl)) (pgs_cons (pg_name (i := 6) sc_due.nd rfl (Or.inl rfl)) pgs_nil)))) (fun _ _ _ _ _ => pts_nil) (fun _ _ _ _ _ => (pe_tup (pa_cons (pv 6) (pa_cons (pv 5) pa_nil)))))) pa_nil))))
    (pss_cons (ps_if (pt_cmpR op_notN (pe_call G_ring (hr.mono (by decide)) (by rfl) C_ring.g C_ring.kp C_ring.b .nil pass0 (pa_cons (pv 2) pa_nil)) pe_non (nomark _))
      (pss_one (ps_ret pe_non))
      pss_nil)
    (pss_cons (ps_set (i := 3) sc_due.nd rfl (Or.inl rfl) (pe_lst pa_nil))
    (pss_cons (ps_for PassesOwn.never rfl (pi_range1 rfl T.range (pa_cons (pe_callB (lenK K) (by rfl) T.len PySem.boot_len (pa_cons (pv 0) pa_nil)) pa_nil)) (pg_name (i := 4) sc_due.nd rfl (Or.inl rfl))
      (pss_one (ps_expr (pe_bm PySem.F.plainAttrs_list PySem.F.slot_list_append PySem.F.type_list_append mt_append (pv 3) (pa_cons (pe_ix (ixL K) (pe_call G_free (hr.mono (by decide)) (by rfl) C_free.g C_free.kp C_free.b .nil pass0 (pa_cons (pv 2) (pa_cons (pv 3) pa_nil))) pe_int (fun _ _ => rfl)) pa_nil)))))
    (pss_one (ps_ret (pv 3))))))), ?_⟩
    obtain ⟨rs, hrs, hrl⟩ := hR.len
    have nn : n * n ≤ 16 * 16 := Nat.mul_le_mul hn hn
    refine ⟨_, rfl, _, _, rfl, .inl (SqL.of hrs), _, rfl, p, n, M, rfl, hR, by omega, fun l1 H1 sm1 nl1 hp1 => ?_⟩
    refine ⟨_, rfl, _, rfl, ⟨_, SqL.of (sm1 _ _ hl1)⟩, fun D hD => lc_list (xs := xs) (fun i H2 => ∃ zs, H2 D = some (.lst zs) ∧ Same H1 H2 ∧ Each (PairV H2) zs (swapP (ps.take i))) ⟨[], upd_same, same_new hD, Each.nil⟩ (fun i H2 _ h => ?_) ?_ ?_⟩
    · obtain ⟨_, _, h, _⟩ := h
      exact SqL.of (h _ _ (sm1 _ _ hl1))
    · rintro i v H2 hv ⟨zs, hz, sm2, hzs⟩
      obtain ⟨⟨a, b⟩, hp, t, rfl, ht⟩ := hl2.2 i v hv
      have ht2 := sm2 _ _ (sm1 _ _ ht)
      have hi : i < ps.length := (List.getElem?_eq_some_iff.mp hp).1
      refine ⟨t, _, rfl, SqT.of ht2, rfl, _, _, rfl, _, _, rfl, rfl, ?_⟩
      refine ⟨rfl, _, rfl, _, rfl, (by show 2 ≤ sizeLine; decide), fun u nu => ?_⟩
      have nD : D ≠ u := ne_of_none hz nu
      have hzu : (upd H2 u (.tup [.int b, .int a])) D = some (.lst zs) := by rw [upd_ne nD]; exact hz
      refine ⟨zs, hzu, size_lt (by rw [hzs.1]; unfold swapP; rw [List.length_map, List.length_take]; omega), zs ++ [.ref u], upd_same, same_mut (sm2.trans (same_new nu)) hD, ?_⟩
      rw [take_more hp]
      unfold swapP
      rw [List.map_append]
      exact Each.snoc (each_upd hzu (each_keep (keep_same (same_new nu)) hzs)) (PairV.upd hzu ⟨u, rfl, upd_same⟩)
    · rintro H2 ⟨zs, hz, sm2, hzs⟩
      rw [hl2.1, List.take_length] at hzs
      obtain ⟨ys, hy1, hy2⟩ := hp1.keep (keep_same sm2)
      refine ⟨_, _, _, _, rfl, rfl, hy1, hz, ?_, fun q nq => ?_⟩
      · rw [hy2.1, hzs.1]
        unfold swapP
        rw [List.length_map]
        have k := aheadP_len (n := n) (M := M) n
        exact size_le (by unfold aheadP; omega)
      have sm3 : Same H (upd H2 q (.lst (ys ++ zs))) := sm1.trans (sm2.trans (same_new nq))
      rw [hrl]
      refine ⟨n, q, aheadP n M ++ swapP ps, rfl, by omega, ⟨_, upd_same, each_keep (keep_same (same_new nq)) (hy2.append hzs)⟩, aheadP_inr.app (swap_inr hin), fun r H4 sm4 hr4 => ?_⟩
      have sm5 := sm3.trans sm4
      -- if _law_ring(turned_rows) is not None
      refine ⟨_, rfl, r, n, _, rfl, hr4, by omega, fun v hv => ?_⟩
      rcases hv with ⟨rfl, hno⟩ | ⟨d, hd, hT, rfl⟩
      · refine ⟨rfl, _, rfl, iteF ?_⟩
        have hri := clos_rises (n := n) (ps := aheadP n M ++ swapP ps) hno
        refine ⟨(by show 0 ≤ sizeLine; decide), fun g ng => ?_⟩
        have s6 : Same H4 (upd H4 g (.lst [])) := same_new ng
        refine ⟨_, rfl, _, _, rfl, .inl (SqL.of (s6 _ _ (sm5 _ _ hrs))), _, rfl, (by omega), (by omega), for_range (lo := 0) (n := rs.length) (fun i σ H6 => ∃ y4 : Option V, σ = [some (.ref p), some (.ref l), some (.ref r), some (.ref g), y4, none, none] ∧ Same H4 H6 ∧ NatsAt H6 g (dueL n (turnM n M ps) i)) ⟨none, rfl, s6, upd_same⟩ ?_ ?_⟩
        · rintro i σ H6 hi ⟨y4, rfl, sm6, hg⟩
          obtain ⟨hL, hLl⟩ := due_to (M := turnM n M ps) hri i (by omega)
          obtain ⟨d, rr, e1, e2⟩ := due_next (M := turnM n M ps) hri (by omega) hLl
          refine ⟨_, rfl, .inl ⟨rfl, _, SqL.of (show H6 g = some (.lst (natV (dueL n (turnM n M ps) i))) from hg)⟩, _, rfl, _, rfl, r, g, n, turnM n M ps, _, rfl, hr4.keep (keep_same sm6), by omega, hg, fun fl H7 sm7 nfl hfl => ?_⟩
          rw [e1] at hfl
          have hfl : H7 fl = some (.lst (.int (d : Int) :: natV rr)) := hfl
          have hg7 : H7 g = some (.lst (natV (dueL n (turnM n M ps) i))) := sm7 _ _ hg
          refine ⟨_, _, _, _, rfl, rfl, SqL.of hfl, at0, _, _, _, rfl, rfl, hg7, size_lt (by rw [natV_len]; omega), ?_⟩
          refine ⟨_, rfl, same_mut (sm6.trans sm7) ng, ?_⟩
          show upd H7 g _ g = _
          rw [upd_same, e2, natV_append]
          rfl
        · rintro σ H6 ⟨y4, rfl, sm6, hg⟩
          rw [hrl] at hg
          exact ⟨_, rfl, qline hno g H6 (sm5.trans sm6) (sm5.free ng) hg⟩
      · exact ⟨rfl, _, rfl, iteT (qring ⟨d, hd, hT⟩ _ sm5)⟩
abbrev s_first_line : Stmt := topS 44
theorem sc_first_line : FnScope ["rows", "pairs", "line", "a", "b"] ["rows", "pairs"] (defScope s_first_line) := ⟨rfl, rfl, rfl, by decide +kernel, rfl, by decide +kernel, by decide +kernel⟩
theorem ok_first_line {f : Addr} {fd : FuncData} {f_lines : Addr} {fd_lines : FuncData} (F : Fun K "_law_first_line" "_law_first_line" s_first_line f fd) (T : Blt mg) (C_lines : Cal K mg "_law_lines" f_lines fd_lines ["rows"]) (G_lines : FnOk P w K mg base CX0 2 f_lines fd_lines ["rows"] (sp_lines K)) : FnOk P w K mg base CX0 3 f fd ["rows", "pairs"] (sp_first_line K) := by
  refine F.ok sc_first_line (fun vs H Q E h => ?_) (fun cdv A outer s H vs Q E hr h => ?_)
  · obtain ⟨_, _, _, _, _, rfl, _⟩ := h
    rfl
  · obtain ⟨p, l, n, M, ps, rfl, hR, hn, ⟨xs, hl1, hl2⟩, hlen, hin, qnone, qsome⟩ := h
    refine ⟨_, (pss_cons (ps_for PassesOwn.never rfl (pi_list (pe_call G_lines (hr.mono (by decide)) (by rfl) C_lines.g C_lines.kp C_lines.b .nil pass0 (pa_cons (pv 0) pa_nil))) (pg_name (i := 2) sc_first_line.nd rfl (Or.inr rfl))
      (pss_one (ps_if (pt_val (pe_callB (allK K rfl) (by rfl) T.all (by decide +kernel) (pa_cons (pe_lc (own := [("a", 3), ("b", 4)]) (g := gTup K 2 (gCons (gName 3) (gCons (gName 4) gNil))) (tt := tYes) rfl sc_first_line.nd (pi_list (pv 1)) (blkOk_by (N := ["rows", "pairs", "line", "a", "b"]) (sc := defScope s_first_line) (by decide +kernel)) (fun _ _ _ _ _ => (pg_tup rfl (pgs_cons (pg_name (i := 3) sc_first_line.nd rfl (Or.inl rfl)) (pgs_cons (pg_name (i := 4) sc_first_line.nd rfl (Or.inl rfl)) pgs_nil)))) (fun _ _ _ _ _ => pts_nil) (fun _ _ _ _ _ => (pe_cmpR op_lt (bmK K PySem.F.plainAttrs_list PySem.F.slot_list_index PySem.F.type_list_index (indexK K) (pv 2) (pa_cons (pv 4) pa_nil)) (bmK K PySem.F.plainAttrs_list PySem.F.slot_list_index PySem.F.type_list_index (indexK K) (pv 2) (pa_cons (pv 3) pa_nil)) (nomark _)))) pa_nil)))
          (pss_one (ps_ret (pv 2)))
          pss_nil)))
    (pss_one (ps_ret pe_non))), ?_⟩
    refine ⟨_, rfl, p, n, M, rfl, hR, hn, fun ll H1 sm1 ⟨ls, hls1, hls2⟩ => ?_⟩
    refine ⟨_, rfl, ⟨_, SqL.of hls1⟩, for_list (xs := ls) (fun i σ H2 => ∃ y2 : Option V, σ = [some (.ref p), some (.ref l), y2, none, none] ∧ Same H1 H2 ∧ ∀ ds ∈ (linesL n M n).take i, turnsB ps ds = false) ⟨none, rfl, Same.refl _, by simp⟩ (fun i σ H2 _ h => ?_) ?_ ?_⟩
    · obtain ⟨_, _, h, _⟩ := h
      exact SqL.of (h _ _ hls1)
    · rintro i v σ H2 hv ⟨y2, rfl, sm2, hno⟩
      obtain ⟨ds, hds, t, rfl, ht⟩ := hls2.2 i v hv
      have hdm := List.mem_of_getElem? hds
      have hL := linesL_of hdm
      have sm02 := sm1.trans sm2
      refine ⟨_, rfl, _, rfl, ⟨_, SqL.of (sm02 _ _ hl1)⟩, fun D hD => lc_list (xs := xs) (fun j H3 => Same H2 H3 ∧ H3 D = some (.lst (((ps.take j).map fun p => decide (ds.idxOf p.2.toNat < ds.idxOf p.1.toNat)).map V.bl))) ⟨same_new hD, upd_same⟩ (fun j H3 _ h => ?_) ?_ ?_⟩
      · obtain ⟨h, _⟩ := h
        exact SqL.of (h _ _ (sm02 _ _ hl1))
      · rintro j u H3 hu ⟨sm3, hD3⟩
        obtain ⟨⟨a, b⟩, hp, tp, rfl, htp⟩ := hl2.2 j u hu
        have htp3 := sm3 _ _ (sm02 _ _ htp)
        have ht3 : H3 t = some (.lst (natV ds)) := sm3 _ _ (sm2 _ _ ht)
        have hj : j < ps.length := (List.getElem?_eq_some_iff.mp hp).1
        have hr := hin _ (List.mem_of_getElem? hp)
        obtain ⟨a', rfl⟩ := Int.eq_ofNat_of_zero_le hr.1.1
        obtain ⟨b', rfl⟩ := Int.eq_ofNat_of_zero_le hr.2.1
        have ka : a' ∈ ds := hL.mem.mpr (by have := hr.1.2; omega)
        have kb : b' ∈ ds := hL.mem.mpr (by have := hr.2.2; omega)
        refine ⟨tp, _, rfl, SqT.of htp3, rfl, _, _, rfl, _, _, rfl, rfl, ?_⟩
        refine ⟨rfl, ?_⟩
        refine ⟨_, rfl, .inl ⟨rfl, _, SqL.of ht3⟩, _, rfl, t, natV ds, _, ds.idxOf b', _, rfl, rfl, SqL.of ht3, rfl, natV_flat ds, natV_get (idx_get kb), idx_eq, idx_none (idx_first hL.nd), ?_⟩
        refine ⟨_, rfl, .inl ⟨rfl, _, SqL.of ht3⟩, _, rfl, t, natV ds, _, ds.idxOf a', _, rfl, rfl, SqL.of ht3, rfl, natV_flat ds, natV_get (idx_get ka), idx_eq, idx_none (idx_first hL.nd), ?_⟩
        refine ⟨_, _, rfl, rfl, _, hD3, size_lt (by rw [List.length_map, List.length_map, List.length_take]; omega), same_mut sm3 hD, ?_⟩
        rw [upd_same, take_more hp, List.map_append, List.map_append]
        have e : decide (((ds.idxOf b' : Nat) : Int) < ((ds.idxOf a' : Nat) : Int)) = decide (ds.idxOf (b' : Int).toNat < ds.idxOf (a' : Int).toNat) := decide_eq_decide.mpr (by rw [Int.toNat_natCast, Int.toNat_natCast]; omega)
        show some (HO.lst (List.map V.bl _ ++ [V.bl (decide (((ds.idxOf b' : Nat) : Int) < ((ds.idxOf a' : Nat) : Int)))])) = _
        rw [e]
        rfl
      · rintro H3 ⟨sm3, hD3⟩
        rw [hl2.1, List.take_length] at hD3
        have eb : List.all ((ps.map fun p => decide (ds.idxOf p.2.toNat < ds.idxOf p.1.toNat))) id = turnsB ps ds := by
          unfold turnsB
          rw [List.all_map]
          rfl
        refine ⟨_, _, rfl, SqL.of hD3, ?_⟩
        rw [eb]
        have hil : i < (linesL n M n).length := (List.getElem?_eq_some_iff.mp hds).1
        cases hc : turnsB ps ds with
        | true =>
          refine ⟨_, rfl, iteT ⟨_, rfl, ?_⟩⟩
          refine qsome ds ?_ t H3 (sm02.trans sm3) (sm3 _ _ (sm2 _ _ ht))
          rw [List.find?_eq_some_iff_append]
          refine ⟨hc, (linesL n M n).take i, (linesL n M n).drop (i + 1), ?_, fun x hx => by rw [hno x hx]; rfl⟩
          have e := (List.getElem?_eq_some_iff.mp hds).2
          rw [← e, List.getElem_cons_drop, List.take_append_drop]
        | false =>
          refine ⟨_, rfl, iteF ⟨_, rfl, sm2.trans sm3, fun x hx => ?_⟩⟩
          rw [take_more hds] at hx
          rcases List.mem_append.mp hx with hx | hx
          · exact hno x hx
          · rw [List.mem_singleton] at hx
            rw [hx]
            exact hc
    · rintro σ H2 ⟨y2, rfl, sm2, hno⟩
      rw [hls2.1, List.take_length] at hno
      exact qnone (List.find?_eq_none.mpr fun x hx => by rw [hno x hx]; decide) _ (sm1.trans sm2)
end
end Few
set_option maxHeartbeats 4000000
/-! A def that is called while an exception is handled, and raises nothing: its promise and its call. -/
namespace Few
open PySem PySem.Spec PyProof.Rows L2
structure RoomQ (k : Nat) (A : Around) : Prop where
  dp : A.depth + 3 * k + 5 < recursionLimit
  un : A.units + 16 * k + 200 < cLine
theorem RoomQ.mono {j k : Nat} {A : Around} (r : RoomQ k A) (h : j ≤ k) : RoomQ j A := by
  obtain ⟨h1, h2⟩ := r
  exact ⟨by omega, by omega⟩
theorem RoomQ.down {k : Nat} {A : Around} (r : RoomQ (k + 1) A) (env : Env) : RoomQ k (A.deeper env) := by
  obtain ⟨h1, h2⟩ := r
  refine ⟨?_, ?_⟩
  · show A.depth + 1 + 3 * k + 5 < _
    omega
  · show A.units + 3 + 16 * k + 200 < _
    omega
theorem roomQ {k : Nat} {A : Around} (r : Room k A) : RoomQ k A := ⟨r.dp, r.un⟩
structure FnQ (P : Program) (w : World) (K : PySem.W.Frag) (mg : Str → Option Value) (base : Heap) (k : Nat) (f : Addr) (fd : FuncData) (ps : List Str) (sp : Sp) : Prop where
  len : ∀ vs H Q E, sp vs H Q E → vs.length = ps.length
  run : ∀ (A : Around) (outer : List Env) (s : Shared) (H : Hp) (args : Args) (us : List Value) (vs : List V) (Q : VK) (E : XK), RoomQ k A → Env0 P w K mg base A outer s H → BindsTo s fd args (ps.zip us) → Vals vs us → sp vs H Q E →
    codeAny (model P w) A (.call (.ref f) args) (CR CX0 outer P w H s Q E) s
def cxQ (P : Program) (w : World) (K : PySem.W.Frag) (mg : Str → Option Value) (base : Heap) (N : List Str) (qual : Str) (scope : Scope) (f : Addr) (cd : Value) (A : Around) (outer : List Env) (s : Shared) (H : Hp) (E : XK) : Cx :=
  { cxOf CX0 P w K mg base N qual scope f cd A outer s H E with calm := false }
section
variable {P : Program} {w : World} {K : PySem.W.Frag} {mg : Str → Option Value} {base : Heap}
theorem Env0.any {A A' : Around} {outer : List Env} {s : Shared} {H : Hp} (e : Env0 P w K mg base A outer s H) (h : A'.frames = some outer) : Env0 P w K mg base A' outer s H := ⟨h, e.mod, e.bs, e.bsz, e.funs, e.frf, e.hok, e.bare⟩
theorem okQ {x qual : Str} {st : Stmt} {f : Addr} {fd : FuncData} {N ps : List Str} {k : Nat} {sp : Sp} (F : Fun K x qual st f fd) (S : FnScope N ps (defScope st)) (len : ∀ vs H Q E, sp vs H Q E → vs.length = ps.length)
    (hbody : ∀ (cdv : Value) (A : Around) (outer : List Env) (s : Shared) (H : Hp) (vs : List V) (Q : VK) (E : XK), RoomQ k (A.deeper (envOfC qual (defScope st) s.heap.objs.size f cdv)) → sp vs H Q E →
      ∃ t, PSs (cxQ P w K mg base N qual (defScope st) f cdv A outer s H E) (defBody st) t ∧ t { nx := fun _ H' => Q .non H', rt := Q } (start N vs) H) : FnQ P w K mg base (k + 1) f fd ps sp := by
  obtain ⟨oc, od, kV, doc, pm, an, cdv, ct, osl, rfl, lk, hcd⟩ := F.ex
  refine ⟨len, fun A outer s H args us vs Q E hr e0 hb r hsp => ?_⟩
  have hl := len _ _ _ _ hsp
  have kb : ∀ b o, base.get? b = some o → s.heap.get? b = some o := fun b o e => (e0.bs b o e).1
  have KX : K.In s.heap := e0.mod.kin.keeps kb
  have lim : s.heap.NoLimit := e0.mod.nolimit.keeps kb
  have dp : A.depth < recursionLimit := by have := hr.dp; omega
  have kinds : ∀ y ∈ ps.zip us, (defScope st).names.lookup y.1 = some .local ∨ ((defScope st).names.lookup y.1 = some .cell ∧ ((cellsFrom (s.heap.objs.size + 1) (defScope st).names []).lookup y.1).isSome = true) := by
    rintro ⟨n, v⟩ hy
    rcases S.par n (List.of_mem_zip hy).1 with q | q
    · exact .inl q
    · exact .inr ⟨q, PySem.W.cellsFrom_some _ _ _ (.inl q)⟩
  refine codeAny_call_function dp (KX _ _ lk) rfl S.co S.gen rfl (PySem.W.codeRec_of KX hcd) (hb _ _ _ _ ?_)
  refine wpAny_newFunctionEnv_cells S.kind kinds fun env he s1 x => ?_
  subst he
  refine ⟨lim.keeps x.toInCall.keep, codeAny_func ?_⟩
  obtain ⟨t, ht, hq⟩ := hbody cdv A outer s H vs Q E (hr.down _) hsp
  have fr1 : ({ A with handled := none } : Around).frames = some outer := e0.frames
  have I0 : Inv (cxOf CX0 P w K mg base N qual (defScope st) f cdv { A with handled := none } outer s H E) [] (start N vs) H s1 := inv_start S rfl (Env0.any e0 fr1) hl r x
  have ok := I0.ok
  have I : Inv (cxQ P w K mg base N qual (defScope st) f cdv A outer s H E) [] (start N vs) H s1 :=
    ⟨⟨ok.mod, ok.kind, ok.glob, ok.blt, ok.above, ok.inj, ok.has, ok.cab, (fun z => Bool.noConfusion (z : false = true)), Around.frames_deeper e0.frames, ok.stk, ok.exf, ok.bs, ok.bsz, ok.noex, ok.exfs, ok.funs, ok.frf⟩,
      I0.os, I0.bare, I0.base, I0.loc, I0.cell, I0.free, I0.freeC, I0.pin, I0.hok, I0.len⟩
  refine wpAny_mono (ht.run [] s1 (start N vs) H _ I hq) (fun fl s' hs => ?_) fun e s' hs => hs
  cases fl with
  | ret u => exact let ⟨v, _, H', J, rv, q⟩ := hs; ⟨v, H', J.os, J.bare, J.base, J.hok, rv, q⟩
  | next => exact let ⟨_, H', J, q⟩ := hs; ⟨V.non, H', J.os, J.bare, J.base, J.hok, rfl, q⟩
  | brk => exact False.elim (let ⟨_, _, _, q⟩ := hs; q)
  | cont => exact False.elim (let ⟨_, _, _, q⟩ := hs; q)
end
section
variable {X : Cx} {k : Nat} {f : Addr} {fd : FuncData} {ps : List Str} {sp : Sp} {x : Str} {p pos : Pos} {e : Expr} {es : List Expr} {t : TA}
def tCallQ (sp : Sp) (t : TA) : TE := fun σ H Q => t σ H fun vs H1 => sp vs H1 Q E0
theorem pe_callQ (F : FnQ X.prog X.w X.K X.mg X.base k f fd ps sp) (hr : RoomQ k X.A) (hg : Gl X x) (hm : X.mg x = some (.ref f)) (hk : PySem.W.keepIn X.K (.ref f) = true) (hb : Binds X.K fd ps []) (ha : PA X (e :: es) t)
    (hdb : (x == ("__debug__" : Str)) = false := by decide) (he : starEach (e :: es) X.env = (false, eval e X.env) :: starEach es X.env := by rfl) (hpl : (backTo pos (starEach es X.env)).any (·.1) = false := by rfl) :
    PE X (.Call (.Name x p) (e :: es) [] pos) (tCallQ sp t) := by
  refine ⟨fun pins s σ H Q I h => wpAny_Call_Name_kw (ld_glob I hg hm ?_ hdb)⟩
  refine PySem.W.callWith_K (h₀ := X.base) I.ok.mod.kin hk (thn (ha.run pos pins s σ H _ I h) fun us s1 h1 => ?_) he hpl
  obtain ⟨vs, H1, I1, r, q⟩ := h1
  refine ⟨I1.kIn, ?_⟩
  have hl : us.length = ps.length := by rw [← r.length]; exact F.len _ _ _ _ q
  have b := hb s1 us I1.kIn (by rw [List.append_nil]; exact hl)
  rw [List.append_nil] at b
  refine wpAny_call (codeAny_mono (F.run X.A X.stack s1 H1 ⟨us, []⟩ us vs Q E0 hr I1.env0 b r q) fun res s' hq => ?_)
  cases res with
  | error e => exact False.elim hq
  | ok fl =>
    cases fl with
    | ret u => exact I1.after hq
    | next => exact False.elim hq
    | brk => exact False.elim hq
    | cont => exact False.elim hq
end
end Few
set_option maxHeartbeats 2000000
namespace Few
open PySem PySem.Spec PyProof.Rows L2
/-- two values that bear the same data, at most n deep -/
def Lk (H : Hp) : Nat → V → V → Prop
  | 0, x, y => x = y ∧ flatV y = true
  | n + 1, x, y => (x = y ∧ flatV y = true) ∨ ∃ (a b : Addr) (xs ys : List V), x = .ref a ∧ y = .ref b ∧ ((H a = some (.lst xs) ∧ H b = some (.lst ys)) ∨ (H a = some (.tup xs) ∧ H b = some (.tup ys))) ∧ xs.length = ys.length ∧ ys.length ≤ 100000 ∧
      ∀ (i : Nat) (x' y' : V), xs[i]? = some x' → ys[i]? = some y' → Lk H n x' y'
theorem Lk.same {H H' : Hp} (s : Same H H') : ∀ {n : Nat} {x y : V}, Lk H n x y → Lk H' n x y
  | 0, _, _, h => h
  | n + 1, x, y, h => by
    rcases h with h | ⟨a, b, xs, ys, h1, h2, h3, h4, h5, h6⟩
    · exact .inl h
    · refine .inr ⟨a, b, xs, ys, h1, h2, ?_, h4, h5, fun i x' y' e1 e2 => Lk.same s (h6 i x' y' e1 e2)⟩
      rcases h3 with ⟨u, v⟩ | ⟨u, v⟩
      · exact .inl ⟨s _ _ u, s _ _ v⟩
      · exact .inr ⟨s _ _ u, s _ _ v⟩
def sp_like (n : Nat) : Sp := fun vs H Q _ => ∃ x y : V, vs = [x, y] ∧ Lk H n x y ∧ ∀ H' : Hp, Same H H' → Q (.bl true) H'
theorem isi_rd {K : PySem.W.Frag} {H : Hp} {Q : VK} {x : V} {tn cn : String} {b : Bool} (ty : TyX K H x (.type tn)) (h : kitB tn cn = some b) (q : Q (.bl b) H) : rIsi K [x, .ty cn] H Q :=
  ⟨x, .ty cn, .type tn, .type cn, b, rfl, .ty _, ty, kit_ty h, q⟩
theorem flat_ty {K : PySem.W.Frag} {H : Hp} {y : V} (h : flatV y = true) : ∃ tn : String, TyX K H y (.type tn) ∧ kitB tn "list" = some false ∧ kitB tn "tuple" = some false ∧ (∃ b, kitB tn "bool" = some b) ∧ (∃ b, kitB tn "int" = some b) ∧ ∃ b, kitB tn "str" = some b := by
  cases y with
  | non => exact ⟨"NoneType", .base .non, by decide +kernel, by decide +kernel, ⟨false, by decide +kernel⟩, ⟨false, by decide +kernel⟩, ⟨false, by decide +kernel⟩⟩
  | bl b => exact ⟨"bool", .base (.bl b), by decide +kernel, by decide +kernel, ⟨true, by decide +kernel⟩, ⟨true, by decide +kernel⟩, ⟨false, by decide +kernel⟩⟩
  | int i => exact ⟨"int", .base (.int i), by decide +kernel, by decide +kernel, ⟨false, by decide +kernel⟩, ⟨true, by decide +kernel⟩, ⟨false, by decide +kernel⟩⟩
  | str z => exact ⟨"str", .base (.str z), by decide +kernel, by decide +kernel, ⟨false, by decide +kernel⟩, ⟨false, by decide +kernel⟩, ⟨true, by decide +kernel⟩⟩
  | _ => cases h
theorem scal_self {y : V} (h : flatV y = true) (hn : ¬ y = .non) : scal y y = true := by
  cases y with
  | non => exact absurd rfl hn
  | bl b => rfl
  | int i => rfl
  | str z => rfl
  | _ => cases h
section
variable {P : Program} {w : World} {K : PySem.W.Frag} {mg : Str → Option Value} {base : Heap}
abbrev s_like : Stmt := topS 40
theorem sc_like : FnScope ["actual", "expected", "at"] ["actual", "expected"] (defScope s_like) := ⟨rfl, rfl, rfl, by decide +kernel, rfl, by decide +kernel, by decide +kernel⟩
theorem ok_like0 {f : Addr} {fd : FuncData} (F : Fun K "_law_like" "_law_like" s_like f fd) (T : Blt mg) : FnOk P w K mg base CX0 1 f fd ["actual", "expected"] (sp_like 0) := by
  refine F.ok sc_like (fun vs H Q E h => ?_) (fun cdv A outer s H vs Q E hr h => ?_)
  · obtain ⟨_, _, rfl, _⟩ := h
    rfl
  · obtain ⟨x, y, rfl, ⟨hxy, hf⟩, q⟩ := h
    obtain rfl : x = y := hxy
    have q := q H (Same.refl H)
    refine ⟨_, (pss_cons (ps_if (PW.pt (pw_or (pt_val (pe_callB (isiK K) (by rfl) T.isinstance (by decide +kernel) (pa_cons (pv 1) (pa_cons (pe_bltn (v := .ty "list") (by rfl) T.list (by decide +kernel) rfl) pa_nil)))) (pw_or1 (pt_val (pe_callB (isiK K) (by rfl) T.isinstance (by decide +kernel) (pa_cons (pv 1) (pa_cons (pe_bltn (v := .ty "tuple") (by rfl) T.tuple (by decide +kernel) rfl) pa_nil)))))))
      pss_never
      pss_nil)
    (pss_cons (ps_if (pt_cmpR op_isN (pv 1) pe_non (nomark _))
      (pss_one (ps_ret (pe_cmpR op_isN (pv 0) pe_non (nomark _))))
      pss_nil)
    (pss_cons (ps_if (PW.pt (pw_or (pt_cmpR op_ne (pe_callB (isiK K) (by rfl) T.isinstance (by decide +kernel) (pa_cons (pv 0) (pa_cons (pe_bltn (v := .ty "bool") (by rfl) T.bool (by decide +kernel) rfl) pa_nil))) (pe_callB (isiK K) (by rfl) T.isinstance (by decide +kernel) (pa_cons (pv 1) (pa_cons (pe_bltn (v := .ty "bool") (by rfl) T.bool (by decide +kernel) rfl) pa_nil))) (nomark _)) (pw_or1 (pt_cmpR op_ne (pe_callB (isiK K) (by rfl) T.isinstance (by decide +kernel) (pa_cons (pv 0) (pa_cons (pe_bltn (v := .ty "int") (by rfl) T.int (by decide +kernel) rfl) pa_nil))) (pe_callB (isiK K) (by rfl) T.isinstance (by decide +kernel) (pa_cons (pv 1) (pa_cons (pe_bltn (v := .ty "int") (by rfl) T.int (by decide +kernel) rfl) pa_nil))) (nomark _)))))
      (pss_one (ps_ret pe_bl))
      pss_nil)
    (pss_one (ps_ret (pe_and (pe_cmpR op_eq (pe_callB (isiK K) (by rfl) T.isinstance (by decide +kernel) (pa_cons (pv 0) (pa_cons (pe_bltn (v := .ty "str") (by rfl) T.str (by decide +kernel) rfl) pa_nil))) (pe_callB (isiK K) (by rfl) T.isinstance (by decide +kernel) (pa_cons (pv 1) (pa_cons (pe_bltn (v := .ty "str") (by rfl) T.str (by decide +kernel) rfl) pa_nil))) (nomark _)) (pe_one (pe_cmpR op_eq (pv 0) (pv 1) (nomark _))))))))), ?_⟩
    obtain ⟨tn, ty, k1, k2, ⟨_, k3⟩, ⟨_, k4⟩, ⟨_, k5⟩⟩ := flat_ty (K := K) (H := H) hf
    refine ⟨_, rfl, _, _, _, _, _, rfl, .ty _, ty, kit_ty k1, ?_⟩
    refine ⟨_, rfl, iteF ?_⟩
    refine ⟨_, rfl, _, _, _, _, _, rfl, .ty _, ty, kit_ty k2, ?_⟩
    refine ⟨_, rfl, iteF ?_⟩
    -- if expected is None
    refine ⟨_, rfl, rfl, _, rfl, ?_⟩
    by_cases hn : x = .non
    · rw [decide_eq_true hn]
      refine iteT ⟨_, rfl, rfl, ?_⟩
      rw [decide_eq_true hn]
      exact q
    · rw [decide_eq_false hn]
      refine iteF ?_
      refine ⟨_, rfl, _, _, _, _, _, rfl, .ty _, ty, kit_ty k3, ?_⟩
      refine ⟨_, rfl, _, _, _, _, _, rfl, .ty _, ty, kit_ty k3, ?_⟩
      refine ⟨rfl, _, rfl, iteNS rfl ?_⟩
      refine ⟨_, rfl, _, _, _, _, _, rfl, .ty _, ty, kit_ty k4, ?_⟩
      refine ⟨_, rfl, _, _, _, _, _, rfl, .ty _, ty, kit_ty k4, ?_⟩
      refine ⟨rfl, _, rfl, iteNS rfl ?_⟩
      refine ⟨_, rfl, _, _, _, _, _, rfl, .ty _, ty, kit_ty k5, ?_⟩
      refine ⟨_, rfl, _, _, _, _, _, rfl, .ty _, ty, kit_ty k5, ?_⟩
      refine ⟨rfl, _, rfl, ?_⟩
      rw [decide_eq_true rfl]
      refine iteT ⟨_, rfl, _, rfl, scal_self hf hn, ?_⟩
      rw [decide_eq_true rfl]
      exact q
/-- while an exception is handled -/
theorem ok_likeQ {f : Addr} {fd : FuncData} (F : Fun K "_law_like" "_law_like" s_like f fd) (T : Blt mg) : FnQ P w K mg base 1 f fd ["actual", "expected"] (sp_like 0) := by
  refine okQ F sc_like (fun vs H Q E h => ?_) (fun cdv A outer s H vs Q E hr h => ?_)
  · obtain ⟨_, _, rfl, _⟩ := h
    rfl
  · obtain ⟨x, y, rfl, ⟨hxy, hf⟩, q⟩ := h
    obtain rfl : x = y := hxy
    have q := q H (Same.refl H)
    refine ⟨_, (pss_cons (ps_if (PW.pt (pw_or (pt_val (pe_callB (isiK K) (by rfl) T.isinstance (by decide +kernel) (pa_cons (pv 1) (pa_cons (pe_bltn (v := .ty "list") (by rfl) T.list (by decide +kernel) rfl) pa_nil)))) (pw_or1 (pt_val (pe_callB (isiK K) (by rfl) T.isinstance (by decide +kernel) (pa_cons (pv 1) (pa_cons (pe_bltn (v := .ty "tuple") (by rfl) T.tuple (by decide +kernel) rfl) pa_nil)))))))
      pss_never
      pss_nil)
    (pss_cons (ps_if (pt_cmpR op_isN (pv 1) pe_non (nomark _))
      (pss_one (ps_ret (pe_cmpR op_isN (pv 0) pe_non (nomark _))))
      pss_nil)
    (pss_cons (ps_if (PW.pt (pw_or (pt_cmpR op_ne (pe_callB (isiK K) (by rfl) T.isinstance (by decide +kernel) (pa_cons (pv 0) (pa_cons (pe_bltn (v := .ty "bool") (by rfl) T.bool (by decide +kernel) rfl) pa_nil))) (pe_callB (isiK K) (by rfl) T.isinstance (by decide +kernel) (pa_cons (pv 1) (pa_cons (pe_bltn (v := .ty "bool") (by rfl) T.bool (by decide +kernel) rfl) pa_nil))) (nomark _)) (pw_or1 (pt_cmpR op_ne (pe_callB (isiK K) (by rfl) T.isinstance (by decide +kernel) (pa_cons (pv 0) (pa_cons (pe_bltn (v := .ty "int") (by rfl) T.int (by decide +kernel) rfl) pa_nil))) (pe_callB (isiK K) (by rfl) T.isinstance (by decide +kernel) (pa_cons (pv 1) (pa_cons (pe_bltn (v := .ty "int") (by rfl) T.int (by decide +kernel) rfl) pa_nil))) (nomark _)))))
      (pss_one (ps_ret pe_bl))
      pss_nil)
    (pss_one (ps_ret (pe_and (pe_cmpR op_eq (pe_callB (isiK K) (by rfl) T.isinstance (by decide +kernel) (pa_cons (pv 0) (pa_cons (pe_bltn (v := .ty "str") (by rfl) T.str (by decide +kernel) rfl) pa_nil))) (pe_callB (isiK K) (by rfl) T.isinstance (by decide +kernel) (pa_cons (pv 1) (pa_cons (pe_bltn (v := .ty "str") (by rfl) T.str (by decide +kernel) rfl) pa_nil))) (nomark _)) (pe_one (pe_cmpR op_eq (pv 0) (pv 1) (nomark _))))))))), ?_⟩
    obtain ⟨tn, ty, k1, k2, ⟨_, k3⟩, ⟨_, k4⟩, ⟨_, k5⟩⟩ := flat_ty (K := K) (H := H) hf
    refine ⟨_, rfl, _, _, _, _, _, rfl, .ty _, ty, kit_ty k1, ?_⟩
    refine ⟨_, rfl, iteF ?_⟩
    refine ⟨_, rfl, _, _, _, _, _, rfl, .ty _, ty, kit_ty k2, ?_⟩
    refine ⟨_, rfl, iteF ?_⟩
    -- if expected is None
    refine ⟨_, rfl, rfl, _, rfl, ?_⟩
    by_cases hn : x = .non
    · rw [decide_eq_true hn]
      refine iteT ⟨_, rfl, rfl, ?_⟩
      rw [decide_eq_true hn]
      exact q
    · rw [decide_eq_false hn]
      refine iteF ?_
      refine ⟨_, rfl, _, _, _, _, _, rfl, .ty _, ty, kit_ty k3, ?_⟩
      refine ⟨_, rfl, _, _, _, _, _, rfl, .ty _, ty, kit_ty k3, ?_⟩
      refine ⟨rfl, _, rfl, iteNS rfl ?_⟩
      refine ⟨_, rfl, _, _, _, _, _, rfl, .ty _, ty, kit_ty k4, ?_⟩
      refine ⟨_, rfl, _, _, _, _, _, rfl, .ty _, ty, kit_ty k4, ?_⟩
      refine ⟨rfl, _, rfl, iteNS rfl ?_⟩
      refine ⟨_, rfl, _, _, _, _, _, rfl, .ty _, ty, kit_ty k5, ?_⟩
      refine ⟨_, rfl, _, _, _, _, _, rfl, .ty _, ty, kit_ty k5, ?_⟩
      refine ⟨rfl, _, rfl, ?_⟩
      rw [decide_eq_true rfl]
      refine iteT ⟨_, rfl, _, rfl, scal_self hf hn, ?_⟩
      rw [decide_eq_true rfl]
      exact q
theorem ok_likeS {n : Nat} {f : Addr} {fd : FuncData} (F : Fun K "_law_like" "_law_like" s_like f fd) (T : Blt mg) (C_like : Cal K mg "_law_like" f fd ["actual", "expected"]) (G_like : FnOk P w K mg base CX0 (n + 1) f fd ["actual", "expected"] (sp_like n)) :
    FnOk P w K mg base CX0 (n + 2) f fd ["actual", "expected"] (sp_like (n + 1)) := by
  refine F.ok sc_like (fun vs H Q E h => ?_) (fun cdv A outer s H vs Q E hr h => ?_)
  · obtain ⟨_, _, rfl, _⟩ := h
    rfl
  · obtain ⟨x, y, rfl, hL, q⟩ := h
    refine ⟨_, (pss_cons (ps_if (PW.pt (pw_or (pt_val (pe_callB (isiK K) (by rfl) T.isinstance (by decide +kernel) (pa_cons (pv 1) (pa_cons (pe_bltn (v := .ty "list") (by rfl) T.list (by decide +kernel) rfl) pa_nil)))) (pw_or1 (pt_val (pe_callB (isiK K) (by rfl) T.isinstance (by decide +kernel) (pa_cons (pv 1) (pa_cons (pe_bltn (v := .ty "tuple") (by rfl) T.tuple (by decide +kernel) rfl) pa_nil)))))))
      (pss_cons (ps_if (pt_cmpR op_ne (pe_callB (isiK K) (by rfl) T.isinstance (by decide +kernel) (pa_cons (pv 0) (pa_cons (pe_bltn (v := .ty "list") (by rfl) T.list (by decide +kernel) rfl) pa_nil))) (pe_callB (isiK K) (by rfl) T.isinstance (by decide +kernel) (pa_cons (pv 1) (pa_cons (pe_bltn (v := .ty "list") (by rfl) T.list (by decide +kernel) rfl) pa_nil))) (nomark _))
          (pss_one (ps_ret pe_bl))
          pss_nil)
        (pss_cons (ps_if (PW.pt (pw_or (pt_cmpR op_ne (pe_callB (isiK K) (by rfl) T.isinstance (by decide +kernel) (pa_cons (pv 0) (pa_cons (pe_bltn (v := .ty "tuple") (by rfl) T.tuple (by decide +kernel) rfl) pa_nil))) (pe_callB (isiK K) (by rfl) T.isinstance (by decide +kernel) (pa_cons (pv 1) (pa_cons (pe_bltn (v := .ty "tuple") (by rfl) T.tuple (by decide +kernel) rfl) pa_nil))) (nomark _)) (pw_or1 (pt_cmpR op_ne (pe_callB (lenK K) (by rfl) T.len PySem.boot_len (pa_cons (pv 0) pa_nil)) (pe_callB (lenK K) (by rfl) T.len PySem.boot_len (pa_cons (pv 1) pa_nil)) (nomark _)))))
          (pss_one (ps_ret pe_bl))
          pss_nil)
        (pss_one (ps_ret (pe_callB (allK K rfl) (by rfl) T.all (by decide +kernel) (pa_cons (pe_lc (own := [("at", 2)]) (g := gName 2) (tt := tYes) rfl sc_like.nd (pi_range1 rfl T.range (pa_cons (pe_callB (lenK K) (by rfl) T.len PySem.boot_len (pa_cons (pv 1) pa_nil)) pa_nil)) (blkOk_by (N := ["actual", "expected", "at"]) (sc := defScope s_like) (by decide +kernel)) (fun _ _ _ _ _ => (pg_name (i := 2) sc_like.nd rfl (Or.inl rfl))) (fun _ _ _ _ _ => pts_nil) (fun _ _ _ _ _ => (pe_call G_like (hr.mono (Nat.le_refl _)) (by rfl) C_like.g C_like.kp C_like.b .nil pass0 (pa_cons (pe_ix (ixQ K) (pv 0) (pv 2) (fun _ _ => rfl)) (pa_cons (pe_ix (ixQ K) (pv 1) (pv 2) (fun _ _ => rfl)) pa_nil))))) pa_nil))))))
      pss_nil)
    (pss_cons (ps_if (pt_cmpR op_isN (pv 1) pe_non (nomark _))
      (pss_one (ps_ret (pe_cmpR op_isN (pv 0) pe_non (nomark _))))
      pss_nil)
    (pss_cons (ps_if (PW.pt (pw_or (pt_cmpR op_ne (pe_callB (isiK K) (by rfl) T.isinstance (by decide +kernel) (pa_cons (pv 0) (pa_cons (pe_bltn (v := .ty "bool") (by rfl) T.bool (by decide +kernel) rfl) pa_nil))) (pe_callB (isiK K) (by rfl) T.isinstance (by decide +kernel) (pa_cons (pv 1) (pa_cons (pe_bltn (v := .ty "bool") (by rfl) T.bool (by decide +kernel) rfl) pa_nil))) (nomark _)) (pw_or1 (pt_cmpR op_ne (pe_callB (isiK K) (by rfl) T.isinstance (by decide +kernel) (pa_cons (pv 0) (pa_cons (pe_bltn (v := .ty "int") (by rfl) T.int (by decide +kernel) rfl) pa_nil))) (pe_callB (isiK K) (by rfl) T.isinstance (by decide +kernel) (pa_cons (pv 1) (pa_cons (pe_bltn (v := .ty "int") (by rfl) T.int (by decide +kernel) rfl) pa_nil))) (nomark _)))))
      (pss_one (ps_ret pe_bl))
      pss_nil)
    (pss_one (ps_ret (pe_and (pe_cmpR op_eq (pe_callB (isiK K) (by rfl) T.isinstance (by decide +kernel) (pa_cons (pv 0) (pa_cons (pe_bltn (v := .ty "str") (by rfl) T.str (by decide +kernel) rfl) pa_nil))) (pe_callB (isiK K) (by rfl) T.isinstance (by decide +kernel) (pa_cons (pv 1) (pa_cons (pe_bltn (v := .ty "str") (by rfl) T.str (by decide +kernel) rfl) pa_nil))) (nomark _)) (pe_one (pe_cmpR op_eq (pv 0) (pv 1) (nomark _))))))))), ?_⟩
    rcases hL with ⟨hxy, hf⟩ | ⟨a, b, xs, ys, rfl, rfl, hab, hlen, hsz, hL⟩
    · obtain rfl : x = y := hxy
      have q := q H (Same.refl H)
      obtain ⟨tn, ty, k1, k2, ⟨_, k3⟩, ⟨_, k4⟩, ⟨_, k5⟩⟩ := flat_ty (K := K) (H := H) hf
      refine ⟨_, rfl, _, _, _, _, _, rfl, .ty _, ty, kit_ty k1, ?_⟩
      refine ⟨_, rfl, iteF ?_⟩
      refine ⟨_, rfl, _, _, _, _, _, rfl, .ty _, ty, kit_ty k2, ?_⟩
      refine ⟨_, rfl, iteF ?_⟩
      -- if expected is None
      refine ⟨_, rfl, rfl, _, rfl, ?_⟩
      by_cases hn : x = .non
      · rw [decide_eq_true hn]
        refine iteT ⟨_, rfl, rfl, ?_⟩
        rw [decide_eq_true hn]
        exact q
      · rw [decide_eq_false hn]
        refine iteF ?_
        refine ⟨_, rfl, _, _, _, _, _, rfl, .ty _, ty, kit_ty k3, ?_⟩
        refine ⟨_, rfl, _, _, _, _, _, rfl, .ty _, ty, kit_ty k3, ?_⟩
        refine ⟨rfl, _, rfl, iteNS rfl ?_⟩
        refine ⟨_, rfl, _, _, _, _, _, rfl, .ty _, ty, kit_ty k4, ?_⟩
        refine ⟨_, rfl, _, _, _, _, _, rfl, .ty _, ty, kit_ty k4, ?_⟩
        refine ⟨rfl, _, rfl, iteNS rfl ?_⟩
        refine ⟨_, rfl, _, _, _, _, _, rfl, .ty _, ty, kit_ty k5, ?_⟩
        refine ⟨_, rfl, _, _, _, _, _, rfl, .ty _, ty, kit_ty k5, ?_⟩
        refine ⟨rfl, _, rfl, ?_⟩
        rw [decide_eq_true rfl]
        refine iteT ⟨_, rfl, _, rfl, scal_self hf hn, ?_⟩
        rw [decide_eq_true rfl]
        exact q
    · rcases hab with ⟨ha, hb⟩ | ⟨ha, hb⟩
      · have tya : TyX K H (.ref a) (.type "list") := .base (.lst ha)
        have tyb : TyX K H (.ref b) (.type "list") := .base (.lst hb)
        have k1 : kitB "list" "list" = some true := by decide +kernel
        have k2 : kitB "list" "tuple" = some false := by decide +kernel
        refine ⟨_, rfl, _, _, _, _, _, rfl, .ty _, tyb, kit_ty k1, ?_⟩
        refine ⟨_, rfl, iteT ?_⟩
        refine iteT ?_
        refine ⟨_, rfl, _, _, _, _, _, rfl, .ty _, tya, kit_ty k1, ?_⟩
        refine ⟨_, rfl, _, _, _, _, _, rfl, .ty _, tyb, kit_ty k1, ?_⟩
        refine ⟨rfl, _, rfl, iteNS rfl ?_⟩
        refine ⟨_, rfl, _, _, _, _, _, rfl, .ty _, tya, kit_ty k2, ?_⟩
        refine ⟨_, rfl, _, _, _, _, _, rfl, .ty _, tyb, kit_ty k2, ?_⟩
        refine ⟨rfl, _, rfl, iteNS rfl ?_⟩
        refine ⟨_, rfl, _, _, rfl, .inl (SqL.of ha), _, rfl, _, _, rfl, .inl (SqL.of hb), rfl, _, rfl, iteNS (by rw [hlen]) ?_⟩
        refine ⟨_, rfl, _, _, rfl, .inl (SqL.of hb), _, rfl, (by omega), (by omega), fun D hD => lc_range (lo := 0) (n := ys.length) (fun i H1 => Same H H1 ∧ H1 D = some (.lst ((List.replicate i true).map V.bl))) ⟨same_new hD, upd_same⟩ ?_ ?_⟩
        · rintro i H1 hi ⟨sm, hd⟩
          have hia : i < xs.length := by omega
          have e1 := List.getElem?_eq_getElem hia
          have e2 := List.getElem?_eq_getElem hi
          refine ⟨rfl, ?_⟩
          refine ⟨_, rfl, _, rfl, .inl ⟨_, _, _, _, rfl, rfl, SqL.of (sm _ _ ha), at_zero e1, ?_⟩⟩
          refine ⟨_, rfl, _, rfl, .inl ⟨_, _, _, _, rfl, rfl, SqL.of (sm _ _ hb), at_zero e2, ?_⟩⟩
          refine ⟨_, _, rfl, Lk.same sm (hL i _ _ e1 e2), fun H2 sm2 => ?_⟩
          refine ⟨_, sm2 _ _ hd, size_lt (by rw [List.length_map, List.length_replicate]; omega), same_mut (sm.trans sm2) hD, ?_⟩
          rw [upd_same, List.replicate_succ', List.map_append]
          rfl
        · rintro H1 ⟨sm, hd⟩
          refine ⟨_, _, rfl, SqL.of hd, ?_⟩
          have e : (List.replicate ys.length true).all id = true := by
            rw [List.all_eq_true]
            intro z hz
            rw [(List.mem_replicate.mp hz).2]
            rfl
          rw [e]
          exact q H1 sm
      · have tya : TyX K H (.ref a) (.type "tuple") := .base (.tup ha)
        have tyb : TyX K H (.ref b) (.type "tuple") := .base (.tup hb)
        have k1 : kitB "tuple" "list" = some false := by decide +kernel
        have k2 : kitB "tuple" "tuple" = some true := by decide +kernel
        refine ⟨_, rfl, _, _, _, _, _, rfl, .ty _, tyb, kit_ty k1, ?_⟩
        refine ⟨_, rfl, iteF ?_⟩
        refine ⟨_, rfl, _, _, _, _, _, rfl, .ty _, tyb, kit_ty k2, ?_⟩
        refine ⟨_, rfl, iteT ?_⟩
        refine ⟨_, rfl, _, _, _, _, _, rfl, .ty _, tya, kit_ty k1, ?_⟩
        refine ⟨_, rfl, _, _, _, _, _, rfl, .ty _, tyb, kit_ty k1, ?_⟩
        refine ⟨rfl, _, rfl, iteNS rfl ?_⟩
        refine ⟨_, rfl, _, _, _, _, _, rfl, .ty _, tya, kit_ty k2, ?_⟩
        refine ⟨_, rfl, _, _, _, _, _, rfl, .ty _, tyb, kit_ty k2, ?_⟩
        refine ⟨rfl, _, rfl, iteNS rfl ?_⟩
        refine ⟨_, rfl, _, _, rfl, .inr (SqT.of ha), _, rfl, _, _, rfl, .inr (SqT.of hb), rfl, _, rfl, iteNS (by rw [hlen]) ?_⟩
        refine ⟨_, rfl, _, _, rfl, .inr (SqT.of hb), _, rfl, (by omega), (by omega), fun D hD => lc_range (lo := 0) (n := ys.length) (fun i H1 => Same H H1 ∧ H1 D = some (.lst ((List.replicate i true).map V.bl))) ⟨same_new hD, upd_same⟩ ?_ ?_⟩
        · rintro i H1 hi ⟨sm, hd⟩
          have hia : i < xs.length := by omega
          have e1 := List.getElem?_eq_getElem hia
          have e2 := List.getElem?_eq_getElem hi
          refine ⟨rfl, ?_⟩
          refine ⟨_, rfl, _, rfl, .inr (.inl ⟨_, _, _, _, rfl, rfl, SqT.of (sm _ _ ha), at_zero e1, ?_⟩)⟩
          refine ⟨_, rfl, _, rfl, .inr (.inl ⟨_, _, _, _, rfl, rfl, SqT.of (sm _ _ hb), at_zero e2, ?_⟩)⟩
          refine ⟨_, _, rfl, Lk.same sm (hL i _ _ e1 e2), fun H2 sm2 => ?_⟩
          refine ⟨_, sm2 _ _ hd, size_lt (by rw [List.length_map, List.length_replicate]; omega), same_mut (sm.trans sm2) hD, ?_⟩
          rw [upd_same, List.replicate_succ', List.map_append]
          rfl
        · rintro H1 ⟨sm, hd⟩
          refine ⟨_, _, rfl, SqL.of hd, ?_⟩
          have e : (List.replicate ys.length true).all id = true := by
            rw [List.all_eq_true]
            intro z hz
            rw [(List.mem_replicate.mp hz).2]
            rfl
          rw [e]
          exact q H1 sm
end
end Few
set_option maxHeartbeats 4000000
/-! isinstance of an exception that a suite holds, whether it has a dict of its own or not; one class, a tuple of classes. -/
namespace Few
open PySem PySem.W PySem.Spec PySem.Calls PyProof.Rows L2
section
variable {prog : Program} {w : World} {A : Around} {E : Value → Shared → Prop} {s : Shared} {K : Frag} {x D : Addr} {ox : Obj} {od : Option Obj}
theorem bind_cls (c : ExcC K D) : findObj K D od "__class__" = some (.bind (.builtin "getset_descriptor.__get__") (.builtin "object.__class__")) := by
  obtain ⟨cd, h1, _⟩ := any_some c.hd
  unfold findObj
  rw [h1, Option.bind_some, c.ha, Option.bind_some]
  simp [c.hn, c.ht]
theorem exc_class (c : ExcC K D) {Q : Option Value → Shared → Prop} (X : K.In s.heap) (I : InstAt s.heap x ox D od) (h : Q (some (.ref D)) { s with toks := s.toks + 1 }) :
    wpAny (model prog w) A (getAttr? (.ref x) "__class__") Q E s := by
  obtain ⟨hp, g, d, t, os⟩ := s
  have L0 := I.type (M := model prog w)
  have L1 := looks_findIn (M := model prog w) X c.hg
  have L4 := looks_findIn (M := model prog w) X c.hk
  have L3 := looks_find (M := model prog w) X I (bind_cls c)
  have L5 : Looks (model prog w) hp (isInstance (.ref x) (.type "BaseException")) true := L0.andThen (looks_subIn X c.hs)
  have n1 : (Value.builtin "BaseException.__getattribute__" == Value.builtin "object.__getattribute__") = false := by decide +kernel
  have n2 : (onTheHeap (Value.ref D) && Value.builtin "BaseException.__getattribute__" == Value.builtin "object.__getattribute__") = false := by
    rw [n1]
    rfl
  unfold getAttr?
  unfold getAttrBy?
  unfold getAttrBy
  refine wpAny_bind (wpAny_mkText (wpAny_bind ?_))
  refine wpAny_attempt (wpAny_holding (wpAny_bind ?_))
  refine L0.at (wpAny_bind (L1.at ?_))
  show wpAny _ _ (if (onTheHeap (Value.ref D) && (Value.builtin "BaseException.__getattribute__" == Value.builtin "object.__getattribute__")) = true then _ else _) _ _ _
  rw [n2, if_neg Bool.false_ne_true]
  unfold getAttrByItsOwn
  unfold hookBefore
  refine wpAny_bind ?_
  have on : onTheHeap (Value.ref D) = true := rfl
  rw [if_pos on]
  refine L4.at (wpAny_bind (wpAny_attempt (wpAny_holding ?_)))
  unfold callGetattribute
  have off : (false && onTheHeap (Value.builtin "BaseException.__getattribute__")) = false := rfl
  rw [off, if_neg Bool.false_ne_true]
  unfold boundAndCalled
  rw [PySem.F.excAttr_ValueError.ga.bind (.ref x)]
  refine wpAny_bind (wpAny_pure ?_)
  show wpAny _ _ (call (.builtin "BaseException.__getattribute__") [.ref x, .str "__class__" t]) _ _ _
  refine wpAny_call ?_
  refine codeAny_call_builtin PySem.F.excAttr_ValueError.ga.plain PySem.F.entry_bexc_ga ?_
  refine @check_slot (model prog w) _ _ ⟨hp, g, d, t + 1, os⟩ "BaseException.__getattribute__" "BaseException" "__getattribute__" (.ref x) [.str "__class__" t] [] _ (by decide +kernel) (by decide +kernel) L5 (PySem.F.args_bexc_ga _ _) ?_
  unfold Builtin.«object.__getattribute__»
  refine wpAny_bind (wpAny_of_eq (a := ((Value.ref x : Value), [Value.str "__class__" t])) (by first | rfl | (simp only [slotArgs]; rfl)) ?_)
  refine wpAny_bind (wpAny_pure (wpAny_bind ?_))
  refine L0.at (wpAny_bind (L3.at ?_))
  show wpAny _ _ (holding [Value.builtin "object.__class__"] (call (.builtin "getset_descriptor.__get__") [.builtin "object.__class__", .ref x, .ref D]) >>= ret) _ _ _
  refine wpAny_bind (wpAny_holding (wpAny_call ?_))
  refine class_get (s := ⟨hp, g, d, t + 1, os⟩) (ox := ox) (od := od) X I c.hm ?_
  refine wpAny_pure ?_
  show wpAny _ _ (handedOut (.ref D)) _ _ _
  rw [handedOut_of (v := .ref D) rfl]
  first
    | exact wpAny_pure (wpAny_pure h)
    | exact wpAny_pure h
    | exact wpAny_pure (wpAny_bind (wpAny_pure (wpAny_pure h)))
theorem kitx_exc (c : ExcC K D) : KitX K (.ref x) (.ref D) (fun h => InstAt h x ox D od) := by
  obtain ⟨cd, hc, _⟩ := any_some c.hd
  obtain ⟨k1, k2, k3, k4⟩ : ∃ a b e, K.lookup D = some ⟨a, b, .cls cd, e⟩ := by
    unfold clsIn at hc
    split at hc
    · rename_i a b cd' e ho
      cases hc
      exact ⟨a, b, e, ho⟩
    · cases hc
  refine ⟨fun _ _ _ I => I.type, fun _ _ X _ => ?_, fun h tp dd its n sl X htp => ?_, fun X I k => exc_class c X I k⟩
  · intro _ _ _ _ k q
    unfold isType
    unfold loadHead
    exact wpAny_bind (wpAny_loadPart (k _ _ (X _ _ k4)) (wpAny_pure q))
  · refine Bool.eq_false_iff.mpr fun q => ?_
    have e : D = tp := Value.ref.inj (beq_iff_eq.mp q)
    rw [← e, X _ _ k4] at htp
    cases htp
end
/-- the exception that a suite holds, at a: of the class at D; its dict, if it has one, is tracked -/
def ExAt (K : Frag) (H : Hp) (cls : Value) (d : Option Addr) (D : Addr) : Prop := cls = .ref D ∧ ExcC K D ∧ (d = none ∨ ∃ dd fs, d = some dd ∧ H dd = some (.xd fs))
def rIsX (K : Frag) (cls : Value) (d : Option Addr) (a : Addr) : List V → Hp → VK → Prop := fun xs H Q => ∃ (D : Addr) (c : V) (u : Value) (b : Bool), xs = [.ref a, c] ∧ ExAt K H cls d D ∧ ClsV c u ∧ kitOne K (.ref D) u = some b ∧ Q (.bl b) H
def rIsXT (K : Frag) (cls : Value) (d : Option Addr) (a : Addr) : List V → Hp → VK → Prop := fun xs H Q => ∃ (D tp : Addr) (cs : List V) (us : List Value) (b : Bool), xs = [.ref a, .ref tp] ∧ ExAt K H cls d D ∧ H tp = some (.tup cs) ∧ Paired ClsV cs us ∧
  kitAny K (.ref D) us = some b ∧ Q (.bl b) H
section
variable {X : Cx} {a : Addr} {oe : Obj} {cls : Value} {d : Option Addr} {pn : List (Addr × Obj)}
theorem inst_of {pins : List (Addr × Obj)} {σ : L2.St} {H : Hp} {s : Shared} {D : Addr} (hz : Zc cls d oe) (hf : ∃ vs, oe.data = .fields vs) (I : Inv (X.suite a ((a, oe) :: pn)) pins σ H s) (e : ExAt X.K H cls d D) : ∃ od, InstAt s.heap a oe D od := by
  obtain ⟨e1, _, e3⟩ := e
  obtain ⟨h1, _⟩ := I.pin (a, oe) (List.mem_append_left _ List.mem_cons_self)
  obtain ⟨vs, hv⟩ := hf
  obtain ⟨z1, z2⟩ := hz
  have nc : notCls oe = true := by
    unfold notCls
    rw [hv] <;> rfl
  rcases e3 with e3 | ⟨dd, fs, e3, e4⟩
  · exact ⟨none, h1, z1.trans e1, nc, by rw [z2, e3]; trivial⟩
  · obtain ⟨mA, hns, _⟩ := (show ObjOk X.prog X.w H s.heap dd (.xd fs) from I.hok dd _ e4)
    obtain ⟨o, ho, _⟩ := lookIn_ns hns
    exact ⟨some o, h1, z1.trans e1, nc, by rw [z2, e3]; exact ho⟩
theorem call_isX (K : Frag) (hz : Zc cls d oe) (hf : ∃ vs, oe.data = .fields vs) (hK : X.K = K := by rfl) : CallR (X.suite a ((a, oe) :: pn)) (.builtin "isinstance") (rIsX K cls d a) := by
  subst hK
  intro pins s σ H xs us Q I r h
  obtain ⟨D, c, u, b, rfl, ex, k, e, q⟩ := h
  obtain ⟨u1, u2, rfl, r1, r2⟩ := vals2 r
  cases (show u1 = Value.ref a from r1)
  have e2 := k.eq r2
  subst e2
  obtain ⟨od, J⟩ := inst_of hz hf I ex
  exact kia_one (kitx_exc ex.2.1) I.kIn J e (fun z => nomatch z) fun tk => ⟨.bl b, H, I.kept (t' := tk) fun _ _ z => z, rfl, q⟩
theorem call_isXT (K : Frag) (hz : Zc cls d oe) (hf : ∃ vs, oe.data = .fields vs) (hK : X.K = K := by rfl) : CallR (X.suite a ((a, oe) :: pn)) (.builtin "isinstance") (rIsXT K cls d a) := by
  subst hK
  intro pins s σ H xs us Q I r h
  obtain ⟨D, tp, cs, ws, b, rfl, ex, hT, k, e, q⟩ := h
  obtain ⟨u1, u2, rfl, r1, r2⟩ := vals2 r
  cases (show u1 = Value.ref a from r1)
  cases (show u2 = Value.ref tp from r2)
  obtain ⟨od, J⟩ := inst_of hz hf I ex
  obtain ⟨_, its, rv, ⟨oc, odd, dt, sl⟩, h1, h2, n, h3⟩ := (show ObjOk X.prog X.w H s.heap tp (.tup cs) from I.hok tp _ hT)
  have e3 := ClsV.all k rv
  subst e3
  simp only at h2 h3
  subst h2 h3
  exact kia_tup (kitx_exc ex.2.1) I.kIn J h1 e (fun z => nomatch z) fun tk => ⟨.bl b, H, I.kept (t' := tk) fun _ _ z => z, rfl, q⟩
end
end Few
set_option maxHeartbeats 4000000
namespace Few
open PySem PySem.Spec PyProof.Rows L2
/-- what the top says of the errors that the law looks at -/
structure AskT (K : PySem.W.Frag) (mg : Str → Option Value) (CB CW CNA CNB CTM : Addr) : Prop where
  gB : mg "BadDeed" = some (.ref CB)
  gW : mg "WatchError" = some (.ref CW)
  gNA : mg "NotAhead" = some (.ref CNA)
  gNB : mg "NotBeside" = some (.ref CNB)
  gTM : mg "TooMany" = some (.ref CTM)
  xB : PySem.W.exmOne K (.ref CB) (.ref CB) = some true
  ex : ExcC K CB
  no : PySem.W.kitAny K (.ref CB) [.ref CNA, .ref CNB, .ref CTM] = some false
  yes : PySem.W.kitOne K (.ref CB) (.ref CW) = some true
  xf : XfC K CB
  nof : PySem.W.findIn K (.ref CB) "bad_deed" = some none
def LineV (n : Nat) (T : Tb) (H : Hp) (v : V) : Prop := (v = .non ∧ ∃ d, d < n ∧ T d d = true) ∨ ∃ r, v = .ref r ∧ (∀ d, d < n → T d d = false) ∧ NatsAt H r (dueL n T n)
theorem LineV.same {n : Nat} {T : Tb} {H H' : Hp} {v : V} (s : Same H H') (h : LineV n T H v) : LineV n T H' v := by
  rcases h with h | ⟨r, h1, h2, h3⟩
  · exact .inl h
  · exact .inr ⟨r, h1, h2, s _ _ h3⟩
theorem lk_nats {H : Hp} {a b : Addr} {l : List Nat} (ha : NatsAt H a l) (hb : NatsAt H b l) (hl : l.length ≤ 100000) : Lk H 1 (.ref a) (.ref b) := by
  refine .inr ⟨a, b, natV l, natV l, rfl, rfl, .inl ⟨ha, hb⟩, rfl, by rw [natV_len]; exact hl, fun i x' y' e1 e2 => ?_⟩
  rw [e1] at e2
  obtain ⟨z, _, rfl⟩ := natV_of e1
  exact ⟨Option.some.inj e2, by rw [← Option.some.inj e2] <;> rfl⟩
theorem lk_up {H : Hp} : ∀ {n : Nat} {x y : V}, Lk H n x y → Lk H (n + 1) x y
  | 0, x, y, h => .inl h
  | n + 1, x, y, h => by
    rcases h with h | ⟨a, b, xs, ys, h1, h2, h3, h4, h5, h6⟩
    · exact .inl h
    · exact .inr ⟨a, b, xs, ys, h1, h2, h3, h4, h5, fun i x' y' e1 e2 => lk_up (h6 i x' y' e1 e2)⟩
theorem dueL_len (n : Nat) (T : Tb) : ∀ k, (dueL n T k).length = k
  | 0 => rfl
  | k + 1 => by
    show (dueL n T k ++ [_]).length = _
    rw [List.length_append, dueL_len n T k]
    rfl
theorem lk_line {n : Nat} {T : Tb} {H : Hp} {v u : V} (hn : n ≤ 16) (hv : LineV n T H v) (hu : LineV n T H u) : Lk H 2 v u := by
  refine lk_up ?_
  rcases hv with ⟨rfl, d, hd, hT⟩ | ⟨r, rfl, hno, hr⟩
  · rcases hu with ⟨rfl, _⟩ | ⟨r, rfl, hno, hr⟩
    · exact .inl ⟨rfl, rfl⟩
    · rw [hno d hd] at hT
      cases hT
  · rcases hu with ⟨rfl, d, hd, hT⟩ | ⟨r2, rfl, _, hr2⟩
    · rw [hno d hd] at hT
      cases hT
    · exact lk_nats hr hr2 (by rw [dueL_len]; omega)
theorem lk_pairs {H : Hp} {a b : Addr} {xs : List V} {ps : List (Int × Int)} (ha : H a = some (.lst xs)) (hb : H b = some (.lst xs)) (he : Each (PairV H) xs ps) (hl : ps.length ≤ 100000) : Lk H 2 (.ref a) (.ref b) := by
  refine .inr ⟨a, b, xs, xs, rfl, rfl, .inl ⟨ha, hb⟩, rfl, by rw [he.1]; exact hl, fun i x' y' e1 e2 => ?_⟩
  rw [e1] at e2
  obtain rfl := Option.some.inj e2
  obtain ⟨p, _, t, rfl, ht⟩ := he.2 i _ e1
  refine .inr ⟨t, t, _, _, rfl, rfl, .inr ⟨ht, ht⟩, rfl, by show 2 ≤ 100000; decide, fun j u v k1 k2 => ?_⟩
  rw [k1] at k2
  obtain rfl := Option.some.inj k2
  refine ⟨rfl, ?_⟩
  match j, k1 with
  | 0, k1 => rw [← Option.some.inj k1] <;> rfl
  | 1, k1 => rw [← Option.some.inj k1] <;> rfl
  | j + 2, k1 => simp at k1
def sp_asked_right (C : Addr) : Sp := fun vs H Q _ => ∃ (x p l : Addr) (n : Nat) (M : Tb) (ps : List (Int × Int)), vs = [.ref x, .ref p, .ref l] ∧ WebAt C H x n M ∧ RowsAt H p n M ∧ n ≤ 16 ∧ Rises n M ∧ PairsAt H l ps ∧ ps.length ≤ 20000 ∧ Smal ps ∧
  ∀ H', Same H H' → Q (.bl true) H'
section
variable {P : Program} {w : World} {K : PySem.W.Frag} {mg : Str → Option Value} {base : Heap} {C CB CW CNA CNB CTM : Addr}
abbrev s_asked_right : Stmt := topS 45
theorem sc_asked_right : FnScope ["web", "rows", "pairs", "fault", "due", "handed", "told", "e"] ["web", "rows", "pairs"] (defScope s_asked_right) := ⟨rfl, rfl, rfl, by decide +kernel, rfl, by decide +kernel, by decide +kernel⟩
theorem ok_asked_right {f : Addr} {fd : FuncData} {f_pairs_fault : Addr} {fd_pairs_fault : FuncData} {f_due : Addr} {fd_due : FuncData} {f_turned_at_once : Addr} {fd_turned_at_once : FuncData} {f_like : Addr} {fd_like : FuncData} {f_first_line : Addr} {fd_first_line : FuncData} (F : Fun K "_law_asked_right" "_law_asked_right" s_asked_right f fd) (T : Blt mg)
    (C_pairs_fault : Cal K mg "_law_pairs_fault" f_pairs_fault fd_pairs_fault ["size", "pairs"]) (G_pairs_fault : FnOk P w K mg base CX0 1 f_pairs_fault fd_pairs_fault ["size", "pairs"] (sp_pairs_fault K))
    (C_due : Cal K mg "_law_due" f_due fd_due ["rows", "pairs"]) (G_due : FnOk P w K mg base CX0 2 f_due fd_due ["rows", "pairs"] (sp_due K))
    (C_turned_at_once : Cal K mg "turned_at_once" f_turned_at_once fd_turned_at_once ["web", "pairs"]) (G_turned_at_once : FnOk P w K mg base (L2.CX P w) 8 f_turned_at_once fd_turned_at_once ["web", "pairs"] (sp_turned_at_once C CB))
    (C_like : Cal K mg "_law_like" f_like fd_like ["actual", "expected"]) (G_like : FnOk P w K mg base CX0 3 f_like fd_like ["actual", "expected"] (sp_like 2)) (Q_like : FnQ P w K mg base 1 f_like fd_like ["actual", "expected"] (sp_like 0))
    (C_first_line : Cal K mg "_law_first_line" f_first_line fd_first_line ["rows", "pairs"]) (G_first_line : FnOk P w K mg base CX0 3 f_first_line fd_first_line ["rows", "pairs"] (sp_first_line K)) (B : AskT K mg CB CW CNA CNB CTM) :
    FnOk P w K mg base CX0 9 f fd ["web", "rows", "pairs"] (sp_asked_right C) := by
  refine F.ok sc_asked_right (fun vs H Q E h => ?_) (fun cdv A outer s H vs Q E hr h => ?_)
  · obtain ⟨_, _, _, _, _, _, rfl, _⟩ := h
    rfl
  · obtain ⟨x, p, l, n, M, ps, rfl, W0, hR, hn, hri, ⟨xs, hl1, hl2⟩, hlen, hsm, q⟩ := h
    refine ⟨_, (pss_cons (ps_set (i := 3) sc_asked_right.nd rfl (Or.inl rfl) (pe_call G_pairs_fault (hr.mono (by decide)) (by rfl) C_pairs_fault.g C_pairs_fault.kp C_pairs_fault.b .nil pass0 (pa_cons (pe_callB (lenK K) (by rfl) T.len PySem.boot_len (pa_cons (pv 1) pa_nil)) (pa_cons (pv 2) pa_nil))))
    (pss_cons (ps_set (i := 4) sc_asked_right.nd rfl (Or.inl rfl) pe_non)
    (C8.pss_cut (ps_if (pt_cmpR op_isN (pv 3) pe_non (nomark _))
      (pss_one (ps_set (i := 4) sc_asked_right.nd rfl (Or.inl rfl) (pe_call G_due (hr.mono (by decide)) (by rfl) C_due.g C_due.kp C_due.b .nil pass0 (pa_cons (pv 1) (pa_cons (pv 2) pa_nil)))))
      pss_nil)
    (pss_cons (ps_set (i := 5) sc_asked_right.nd rfl (Or.inl rfl) (pe_callTy (listK K) (by rfl) T.list (by decide +kernel) (pa_cons (pv 2) pa_nil)))
    (C8.pss_cut (ps_try_mix (tb := fun Wt => tAsg (tCallS (sp_turned_at_once C CB) (WE Wt) (tCons (tVar 0) (tCons (tVar 5) tNil))) (gName 6)) (Wout := fun _ _ _ _ => False) rfl rfl sc_asked_right.nd takes_none5 (fun Wt pn xe tk pso => (pss_one (ps_set (i := 6) sc_asked_right.nd rfl (Or.inl rfl) (pe_callS G_turned_at_once (hr.mono (by decide)) (by rfl) C_turned_at_once.g C_turned_at_once.kp C_turned_at_once.b (fun σ => passAt tk σ) (pa_cons (pv 0) (pa_cons (pv 5) pa_nil))))))
      (.named (i := 7) ⟨rfl, rfl, .inl B.gB⟩ rfl rfl (fun a oe cls d pn hz hf => (pss_cons (ps_if (PW.pt (pw_or (pt_val (pe_callB (call_isXT K hz hf) (by rfl) T.isinstance (by decide +kernel) (pa_cons (pv 7) (pa_cons (pe_tup (pa_cons (pe_glob (v := .ref CNA) rfl B.gNA rfl) (pa_cons (pe_glob (v := .ref CNB) rfl B.gNB rfl) (pa_cons (pe_glob (v := .ref CTM) rfl B.gTM rfl) pa_nil)))) pa_nil)))) (pw_or1 (pt_not (pt_val (pe_callB (call_isX K hz hf) (by rfl) T.isinstance (by decide +kernel) (pa_cons (pv 7) (pa_cons (pe_glob (v := .ref CW) rfl B.gW rfl) pa_nil))))))))
          (pss_one (ps_ret pe_bl)) pss_nil)
        (pss_one (ps_ret (pe_and (pe_cmpR op_notN (pv 3) pe_non (nomark _)) (pe_one (pe_callQ Q_like ⟨(roomQ (hr.mono (j := 1) (by decide))).dp, (roomQ (hr.mono (j := 1) (by decide))).un⟩ (by rfl) C_like.g C_like.kp C_like.b (pa_cons (pe_xf B.xf B.nof hz hf (pv 7)) (pa_cons (pe_ix (ixT K) (pv 3) pe_int (fun _ _ => rfl)) pa_nil)))))))))
      (.plain ⟨rfl, rfl, .inl B.gW⟩ (fun a oe cls d pn _ _ => (pss_one (ps_ret pe_bl))) .nil)))
    (pss_cons (ps_if (PW.pt (pw_or (pt_cmpR op_notN (pv 3) pe_non (nomark _)) (pw_or (pt_not (pt_val (pe_call G_like (hr.mono (by decide)) (by rfl) C_like.g C_like.kp C_like.b .nil pass0 (pa_cons (pv 6) (pa_cons (pv 4) pa_nil))))) (pw_or1 (pt_not (pt_val (pe_call G_like (hr.mono (by decide)) (by rfl) C_like.g C_like.kp C_like.b .nil pass0 (pa_cons (pv 5) (pa_cons (pv 2) pa_nil)))))))))
      (pss_one (ps_ret pe_bl))
      pss_nil)
    (pss_cons (ps_if (PW.pt (pw_and (pt_cmpR op_le (pe_callB (lenK K) (by rfl) T.len PySem.boot_len (pa_cons (pv 1) pa_nil)) pe_int (nomark _)) (pw_and1 (pt_not (pt_val (pe_call G_like (hr.mono (by decide)) (by rfl) C_like.g C_like.kp C_like.b .nil pass0 (pa_cons (pv 6) (pa_cons (pe_call G_first_line (hr.mono (by decide)) (by rfl) C_first_line.g C_first_line.kp C_first_line.b .nil pass0 (pa_cons (pv 1) (pa_cons (pv 2) pa_nil))) pa_nil))))))))
      (pss_one (ps_ret pe_bl))
      pss_nil)
    (C8.pss_cut (ps_if (pt_cmpR op_notN (pv 6) pe_non (nomark _))
      (pss_one (ps_expr (pe_bm PySem.F.plainAttrs_list PySem.F.slot_list_append PySem.F.type_list_append mt_append (pv 6) (pa_cons (pe_un un_neg pe_int) pa_nil))))
      pss_nil)
    (pss_one (ps_ret pe_bl)))))))))), ?_⟩
    obtain ⟨rs, hrs, hrl⟩ := hR.len
    have hPA : PairsAt H l ps := ⟨xs, hl1, hl2⟩
    refine ⟨_, rfl, _, _, rfl, .inl (SqL.of hrs), _, rfl, n, l, ps, (by rw [hrl] <;> rfl), hPA, fun hfn => ?_, fun z tf hz ntf => ?_⟩
    · have hin := fault_none.mp hfn
      refine ⟨fun σ' G => ∃ dv : V, σ' = [some (.ref x), some (.ref p), some (.ref l), some .non, some dv, none, none, none] ∧ Same H G ∧ LineV n (turnM n M ps) G dv, ?_, ?_⟩
      · refine ⟨_, rfl, rfl, _, rfl, iteT ?_⟩
        refine ⟨_, rfl, _, rfl, p, l, n, M, ps, rfl, hR, hn, hPA, hlen, hin, fun hring G sm => ⟨_, rfl, sm, .inl ⟨rfl, hring⟩⟩, fun hno r G sm nr hr => ⟨_, rfl, sm, .inr ⟨r, rfl, hno, hr⟩⟩⟩
      · rintro σ' G ⟨dv, rfl, sm, hdv⟩
        refine ⟨_, rfl, _, _, rfl, .inl (SqL.of (sm _ _ hl1)), fun hd nhd => ?_⟩
        have sm1 : Same H (upd G hd (.lst xs)) := sm.trans (same_new nhd)
        have hdv1 := hdv.same (same_new (o := .lst xs) nhd)
        refine ⟨fun σ' G' => ∃ tv : V, σ' = [some (.ref x), some (.ref p), some (.ref l), some .non, some dv, some (.ref hd), some tv, none] ∧ Same H G' ∧ G' hd = some (.lst xs) ∧ LineV n (turnM n M ps) G' dv ∧ LineV n (turnM n M ps) G' tv ∧ ∀ t, tv = .ref t → H t = none, ?_, ?_⟩
        · refine ⟨_, rfl, _, rfl, x, hd, n, M, ps, rfl, W0.keep (keep_same sm1), hn, ⟨xs, upd_same, each_keep (keep_same sm1) hl2⟩, hlen, hsm, fun _ hring G2 sm2 => ?_, fun _ hno r G2 sm2 nr hr => ?_, fun z d hz => ?_⟩
          · exact ⟨_, rfl, sm1.trans sm2, sm2 _ _ upd_same, hdv1.same sm2, .inl ⟨rfl, hring⟩, fun t z => by cases z⟩
          · exact ⟨_, rfl, sm1.trans sm2, sm2 _ _ upd_same, hdv1.same sm2, .inr ⟨r, rfl, hno, hr⟩, fun t z => by cases z; exact sm1.free nr⟩
          · rw [hfn] at hz
            cases hz
        · rintro σ' G' ⟨tv, rfl, sm2, hhd, hdv2, htv, hfr⟩
          refine ⟨_, rfl, rfl, _, rfl, iteF ?_⟩
          refine ⟨_, rfl, _, rfl, tv, dv, rfl, lk_line hn htv hdv2, fun G3 sm3 => ⟨_, rfl, iteF ?_⟩⟩
          refine ⟨_, rfl, _, rfl, _, _, rfl, lk_pairs (sm3 _ _ hhd) (sm3 _ _ (sm2 _ _ hl1)) (each_keep (keep_same (sm2.trans sm3)) hl2) (by omega), fun G4 sm4 => ⟨_, rfl, iteF ?_⟩⟩
          have sm04 := sm2.trans (sm3.trans sm4)
          refine ⟨_, rfl, _, _, rfl, .inl (SqL.of (sm04 _ _ hrs)), _, _, rfl, rfl, _, rfl, ?_⟩
          have tail : ∀ G5, Same G' G5 → C8.tCut (tIfS (tTest (tOp (fun x y H Q => y = V.non ∧ Q (V.bl !decide (x = V.non)) H) (tVar 6) (tC V.non))) (tDrop (tBM K "list" rAppend (tVar 6) (tCons (tUn (rU fun i => V.int (-i)) (tC (V.int 7))) tNil))) tNext) (tRet (tC (V.bl true)))
              { nx := fun x H' => Q V.non H', rt := Q } [some (V.ref x), some (V.ref p), some (V.ref l), some V.non, some dv, some (V.ref hd), some tv, none] G5 := fun G5 sm5 => by
            refine ⟨fun σ' G6 => Same H G6, ?_, ?_⟩
            · rcases htv with ⟨rfl, _⟩ | ⟨r, rfl, hno, hr⟩
              · exact ⟨_, rfl, rfl, _, rfl, iteF (sm2.trans sm5)⟩
              · have hr5 : G5 r = some (.lst (natV (dueL n (turnM n M ps) n))) := sm5 _ _ hr
                refine ⟨_, rfl, rfl, _, rfl, iteT ?_⟩
                refine ⟨_, rfl, .inl ⟨rfl, _, SqL.of hr5⟩, _, rfl, _, _, _, rfl, rfl, hr5, ?_, ?_⟩
                · rw [natV_len, dueL_len]
                  exact size_lt (by omega)
                · exact same_mut (sm2.trans sm5) (hfr r rfl)
            · intro σ' G6 sm6
              exact q G6 sm6
          by_cases c5 : n ≤ 5
          · rw [decide_eq_true (show (rs.length : Int) ≤ 5 by omega)]
            refine iteT ?_
            refine ⟨_, rfl, _, rfl, _, rfl, p, l, n, M, ps, rfl, hR.keep (keep_same sm04), c5, ⟨xs, sm04 _ _ hl1, each_keep (keep_same sm04) hl2⟩, hlen, hin, fun hnone G5 sm5 => ?_, fun ds hds r G5 sm5 hr5 => ?_⟩
            · rcases htv with ⟨rfl, _⟩ | ⟨r, rfl, hno, hr⟩
              · exact ⟨.non, .non, rfl, .inl ⟨rfl, rfl⟩, fun G6 sm6 => ⟨_, rfl, iteF (tail G6 (sm3.trans (sm4.trans (sm5.trans sm6))))⟩⟩
              · rw [first_due hri hin hno] at hnone
                cases hnone
            · rcases htv with ⟨rfl, d, hd, hT⟩ | ⟨r0, rfl, hno, hr⟩
              · rw [first_ring hri hT] at hds
                cases hds
              · rw [first_due hri hin hno] at hds
                obtain rfl := Option.some.inj hds
                refine ⟨_, _, rfl, lk_up (lk_nats ((sm3.trans (sm4.trans sm5)) _ _ hr) hr5 (by rw [dueL_len]; omega)), fun G6 sm6 => ⟨_, rfl, iteF (tail G6 (sm3.trans (sm4.trans (sm5.trans sm6))))⟩⟩
          · rw [decide_eq_false (show ¬ (rs.length : Int) ≤ 5 by omega)]
            exact iteF (tail _ (sm3.trans sm4))
    · have sm0 : Same H (upd H tf (.tup [.str "BadDeed", .int z])) := same_new ntf
      refine ⟨fun σ' G => σ' = [some (.ref x), some (.ref p), some (.ref l), some (.ref tf), some .non, none, none, none] ∧ G = upd H tf (.tup [.str "BadDeed", .int z]), ⟨_, rfl, rfl, _, rfl, iteF ⟨rfl, rfl⟩⟩, ?_⟩
      rintro σ' G ⟨rfl, rfl⟩
      refine ⟨_, rfl, _, _, rfl, .inl (SqL.of (sm0 _ _ hl1)), fun hd nhd => ?_⟩
      have sm1 := sm0.trans (same_new (o := .lst xs) nhd)
      refine ⟨fun σ' G => False, ?_, fun _ _ h => h.elim⟩
      refine ⟨_, rfl, _, rfl, x, hd, n, M, ps, rfl, W0.keep (keep_same sm1), hn, ⟨xs, upd_same, each_keep (keep_same sm1) hl2⟩, hlen, hsm, fun hin => ?_, fun hin => ?_, fun z' d hz' hd' => ?_⟩
      · rw [fault_none.mpr hin] at hz
        cases hz
      · rw [fault_none.mpr hin] at hz
        cases hz
      · rw [hz] at hz'
        obtain rfl := Option.some.inj hz'
        refine ⟨true, B.xB, fun _ a ha => ?_, fun z => by cases z⟩
        have sm2 := sm1.trans (same_new (o := .xd [("bad_deed", .int z)]) hd')
        have hxd : (upd (upd (upd H tf (.tup [.str "BadDeed", .int z])) hd (.lst xs)) d (.xd [("bad_deed", .int z)])) d = some (.xd [("bad_deed", .int z)]) := upd_same
        have htf : (upd (upd (upd H tf (.tup [.str "BadDeed", .int z])) hd (.lst xs)) d (.xd [("bad_deed", .int z)])) tf = some (.tup [.str "BadDeed", .int z]) := same_new hd' _ _ (same_new nhd _ _ upd_same)
        generalize upd (upd (upd H tf (.tup [.str "BadDeed", .int z])) hd (.lst xs)) d (.xd [("bad_deed", .int z)]) = G at sm2 hxd htf ⊢
        refine ⟨_, rfl, (by show 3 ≤ sizeLine; decide), fun tp ntp => ?_⟩
        have s3 := same_new (o := .tup [.ref CNA, .ref CNB, .ref CTM]) ntp
        have ex3 : ExAt K (upd G tp (.tup [.ref CNA, .ref CNB, .ref CTM])) (.ref CB) (some d) CB := ⟨rfl, B.ex, .inr ⟨d, _, rfl, s3 _ _ hxd⟩⟩
        refine ⟨CB, tp, _, _, false, rfl, ex3, upd_same, .cons (.own _) (.cons (.own _) (.cons (.own _) .nil)), B.no, _, rfl, iteF ?_⟩
        refine ⟨_, rfl, CB, _, _, true, rfl, ex3, .own _, B.yes, _, rfl, iteF ?_⟩
        refine ⟨_, rfl, rfl, true, rfl, ?_⟩
        refine ⟨_, rfl, rfl, rfl, d, _, _, rfl, s3 _ _ hxd, rfl, _, rfl, _, _, _, _, rfl, rfl, SqT.of (s3 _ _ htf), atI_nat (j := 1) rfl, .int z, .int z, rfl, ⟨rfl, rfl⟩, fun G2 sg => ?_⟩
        exact q G2 (sm2.trans (s3.trans sg))
end
end Few
set_option maxHeartbeats 8000000
namespace Few
open PySem PySem.Spec PyProof.Rows L2
/-! ### what lies beside two lists that change -/
theorem keep_hid {x : Addr} {H H' : Hp} (k : Keep H H') : Keep (hid x H) (hid x H') := fun a o n e => hid_at (k a o n (hid_of e).1) (hid_of e).2
theorem hid_upd {x : Addr} {H : Hp} {o : HO} : hid x (upd H x o) = hid x H := by
  funext b
  unfold hid
  by_cases e : b = x
  · rw [if_pos e, if_pos e]
  · rw [if_neg e, if_neg e, upd_ne e]
theorem hid_comm {x y : Addr} {H : Hp} : hid x (hid y H) = hid y (hid x H) := by
  funext b
  unfold hid
  by_cases e1 : b = x
  · by_cases e2 : b = y
    · simp [e1, e2]
    · simp [e1]
  · by_cases e2 : b = y
    · simp [e2]
    · simp [e1, e2]
theorem pairs_apart {w r : Addr} {H : Hp} {ws : List V} {ps : List (Int × Int)} (hw : H w = some (.lst ws)) (hr : r ≠ w) (h : PairsAt H r ps) : PairsAt (hid w H) r ps := by
  obtain ⟨xs, h1, h2⟩ := h
  refine ⟨xs, hid_at h1 hr, h2.mono fun y p _ k => ?_⟩
  obtain ⟨t, e, ht⟩ := k
  exact ⟨t, e, hid_at ht (fun z => by rw [z, hw] at ht; cases ht)⟩
theorem web_apart {C w x : Addr} {H0 H : Hp} {ws : List V} {n : Nat} {M : Tb} (hw : H w = some (.lst ws)) (h0 : H0 w ≠ none) (h : WebN C H0 H x n M) : WebN C H0 (hid w H) x n M := by
  obtain ⟨dx, ma, mb, pr, h1, h2, h3, h4, f1, f2, f3⟩ := h
  exact ⟨dx, ma, mb, pr, hid_at h1 (fun z => by rw [z, hw] at h1; cases h1), hid_at h2 (fun z => h0 (z ▸ f1)), hid_at h3 (fun z => h0 (z ▸ f2)), pairs_apart hw (fun z => h0 (z ▸ f3)) h4, f1, f2, f3⟩
def WebV (C : Addr) (H : Hp) (v : V) (nm : Nat × Tb) : Prop := ∃ x, v = .ref x ∧ WebAt C H x nm.1 nm.2
def AskP (H : Hp) (r : Addr) : Prop := ∃ ps, PairsAt H r ps ∧ ps.length ≤ 20000 ∧ Smal ps
def AskV (H : Hp) (v : V) : Prop := ∃ (a : Addr) (rs : List Addr), v = .ref a ∧ H a = some (.lst (rs.map V.ref)) ∧ rs.length = 7 ∧ ∀ r ∈ rs, AskP H r
theorem AskP.keep {H H' : Hp} {r : Addr} (k : Keep H H') (h : AskP H r) : AskP H' r := by
  obtain ⟨ps, h1, h2⟩ := h
  exact ⟨ps, h1.keep k, h2⟩
theorem AskP.apart {w r : Addr} {H : Hp} {ws : List V} (hw : H w = some (.lst ws)) (hr : r ≠ w) (h : AskP H r) : AskP (hid w H) r := by
  obtain ⟨ps, h1, h2⟩ := h
  exact ⟨ps, pairs_apart hw hr h1, h2⟩
theorem AskV.keep {H H' : Hp} {v : V} (k : Keep H H') (h : AskV H v) : AskV H' v := by
  obtain ⟨a, rs, h1, h2, h3, h4⟩ := h
  exact ⟨a, rs, h1, k _ _ notSt_refs h2, h3, fun r hr => (h4 r hr).keep k⟩
/-- a world: its size, its table -/
def WorldV (H : Hp) (v : V) (nm : Nat × Tb) : Prop := nm.1 ≤ 16 ∧ Rises nm.1 nm.2 ∧ ∃ (t l r : Addr) (ps qs : List (Int × Int)), v = .ref t ∧ H t = some (.tup [.int nm.1, .ref l, .ref r]) ∧ PairsAt H l qs ∧ qs.Perm ps ∧ RowsAt H r nm.1 nm.2 ∧ InR nm.1 ps ∧ ps.length ≤ 256 ∧ nm.2 = clos nm.1 ps
theorem WorldV.keep {H H' : Hp} {v : V} {nm : Nat × Tb} (k : Keep H H') (h : WorldV H v nm) : WorldV H' v nm := by
  obtain ⟨h1, h2, t, l, r, ps, qs, h3, h4, h5, h6, h7, h8⟩ := h
  exact ⟨h1, h2, t, l, r, ps, qs, h3, k _ _ notSt_tup h4, h5.keep k, h6, h7.keep k, h8⟩
/-- between the steps of the first loop -/
structure LawJ (C : Addr) (H0 H : Hp) (st c wb ak : Addr) (ws as : List V) (vw va : List (Nat × Tb)) : Prop where
  s0 : StoreAt H0 st c
  nw : H0 wb = none
  na : H0 ak = none
  ne : wb ≠ ak
  fr : Fr st H0 H
  st_ : StoreAt H st c
  hw : H wb = some (.lst ws)
  ha : H ak = some (.lst as)
  ew : Each (WebV C (hid wb (hid ak H))) ws vw
  ea : Each (fun v _ => AskV (hid wb (hid ak H)) v) as va
section
variable {C : Addr} {H0 H H' : Hp} {st c wb ak : Addr} {ws as : List V} {vw va : List (Nat × Tb)}
theorem LawJ.nwst (j : LawJ C H0 H st c wb ak ws as vw va) : wb ≠ st := ne_new j.s0 j.nw
theorem LawJ.nast (j : LawJ C H0 H st c wb ak ws as vw va) : ak ≠ st := ne_new j.s0 j.na
theorem LawJ.go (j : LawJ C H0 H st c wb ak ws as vw va) (f : Fr st H H') (s : StoreAt H' st c) : LawJ C H0 H' st c wb ak ws as vw va := by
  have k := keep_hid (x := wb) (keep_hid (x := ak) (keep_fr f j.st_))
  exact ⟨j.s0, j.nw, j.na, j.ne, j.fr.trans f, s, f _ _ j.nwst j.hw, f _ _ j.nast j.ha, j.ew.mono fun v nm _ ⟨x, h1, h2⟩ => ⟨x, h1, h2.keep k⟩, j.ea.mono fun v _ _ h => h.keep k⟩
theorem LawJ.same (j : LawJ C H0 H st c wb ak ws as vw va) (f : Same H H') : LawJ C H0 H' st c wb ak ws as vw va := j.go (Fr.of f) (j.st_.same f)
theorem LawJ.off (j : LawJ C H0 H st c wb ak ws as vw va) {r : Addr} (h : H r = none) : r ≠ wb ∧ r ≠ ak := ⟨fun z => (by rw [z, j.hw] at h; cases h), fun z => (by rw [z, j.ha] at h; cases h)⟩
theorem LawJ.apart (j : LawJ C H0 H st c wb ak ws as vw va) {r : Addr} (n : r ≠ wb ∧ r ≠ ak) (h : AskP H r) : AskP (hid wb (hid ak H)) r := (h.apart j.ha n.2).apart (hid_at j.hw j.ne) n.1
theorem LawJ.ask (j : LawJ C H0 H st c wb ak ws as vw va) {v : V} {nm : Nat × Tb} (h : AskV (hid wb (hid ak H)) v) : LawJ C H0 (upd H ak (.lst (as ++ [v]))) st c wb ak ws (as ++ [v]) vw (va ++ [nm]) := by
  have e : hid wb (hid ak (upd H ak (.lst (as ++ [v])))) = hid wb (hid ak H) := by rw [hid_upd]
  exact ⟨j.s0, j.nw, j.na, j.ne, j.fr.mut j.na, j.s0.mut j.na j.st_, by rw [upd_ne j.ne]; exact j.hw, upd_same, by rw [e]; exact j.ew, by rw [e]; exact j.ea.snoc h⟩
theorem LawJ.web (j : LawJ C H0 H st c wb ak ws as vw va) {v : V} {nm : Nat × Tb} (h : WebV C (hid wb (hid ak H)) v nm) : LawJ C H0 (upd H wb (.lst (ws ++ [v]))) st c wb ak (ws ++ [v]) as (vw ++ [nm]) va := by
  have e : hid wb (hid ak (upd H wb (.lst (ws ++ [v])))) = hid wb (hid ak H) := by rw [hid_comm, hid_upd, hid_comm]
  exact ⟨j.s0, j.nw, j.na, j.ne, j.fr.mut j.nw, j.s0.mut j.nw j.st_, upd_same, by rw [upd_ne j.ne.symm]; exact j.ha, by rw [e]; exact j.ew.snoc h, by rw [e]; exact j.ea⟩
/-- back to what was not there -/
theorem Fr.none {s p c : Addr} {H H' : Hp} (f : Fr s H H') (h : StoreAt H s c) (s' : StoreAt H' s c) (hp : H' p = none) : H p = none := by
  cases e : H p with
  | none => rfl
  | some o =>
    have e2 := f p o (ne_new s' hp) e
    rw [hp] at e2
    cases e2
end
theorem smal_pt {a b : Int} (ha : a.natAbs < 2 ^ 999) (hb : b.natAbs < 2 ^ 999) : a.natAbs < 2 ^ 1000 ∧ b.natAbs < 2 ^ 1000 := ⟨Nat.lt_of_lt_of_le ha (Nat.pow_le_pow_right (by decide) (by decide)), Nat.lt_of_lt_of_le hb (Nat.pow_le_pow_right (by decide) (by decide))⟩
theorem small999 {a : Int} (h : a.natAbs ≤ 10 ^ 60) : a.natAbs < 2 ^ 999 := Nat.lt_of_le_of_lt h (by decide +kernel)
theorem smal_inr {n : Nat} {ps : List (Int × Int)} (hn : n ≤ 16) (h : InR n ps) : Smal ps := fun p hp => by
  have k := h p hp
  have e1 : p.1.natAbs ≤ 16 := by omega
  have e2 : p.2.natAbs ≤ 16 := by omega
  exact ⟨Nat.lt_of_le_of_lt e1 (by decide +kernel), Nat.lt_of_le_of_lt e2 (by decide +kernel)⟩
theorem Smal.app {ps qs : List (Int × Int)} (h : Smal ps) (k : Smal qs) : Smal (ps ++ qs) := fun p hp => (List.mem_append.mp hp).elim (h p) (k p)
def sp_law (K : PySem.W.Frag) : Sp := fun vs H Q _ => ∃ (a : Addr) (ns : List Int), vs = [.ref a] ∧ SqL K H a (ns.map V.int) ∧ ns.length ≤ 63 ∧ ∀ H' : Hp, Q (.bl true) H'
section
variable {P : Program} {w : World} {K : PySem.W.Frag} {mg : Str → Option Value} {base : Heap} {C CR : Addr}
abbrev s_law : Stmt := topS 46
theorem sc_law : FnScope ["script", "store", "worlds", "webs", "asked", "size", "pairs", "rows", "one", "two", "bad", "far", "near", "row", "behind_pairs", "at", "turn", "a", "b"] ["script"] (defScope s_law) := ⟨rfl, rfl, rfl, by decide +kernel, rfl, by decide +kernel, by decide +kernel⟩
theorem ok_law {f : Addr} {fd : FuncData} {f_store : Addr} {fd_store : FuncData} {f_small_web : Addr} {fd_small_web : FuncData} {f_turned_pairs : Addr} {fd_turned_pairs : FuncData} {f_take : Addr} {fd_take : FuncData} {f_pick : Addr} {fd_pick : FuncData} {f_Web : Addr} {fd_Web : FuncData} {f_ahead_pairs : Addr} {fd_ahead_pairs : FuncData} {f_asked_right : Addr} {fd_asked_right : FuncData} (F : Fun K "law" "law" s_law f fd) (T : Blt mg) (W : WebT K mg C)
    (C_store : Cal K mg "_law_store" f_store fd_store ["script"]) (G_store : FnOk P w K mg base CX0 1 f_store fd_store ["script"] (sp_store K))
    (C_small_web : Cal K mg "_law_small_web" f_small_web fd_small_web ["store", "most"]) (G_small_web : FnOk P w K mg base CX0 3 f_small_web fd_small_web ["store", "most"] (sp_small_web K))
    (C_turned_pairs : Cal K mg "_law_turned_pairs" f_turned_pairs fd_turned_pairs ["store", "rows"]) (G_turned_pairs : FnOk P w K mg base CX0 3 f_turned_pairs fd_turned_pairs ["store", "rows"] (sp_turned_pairs K))
    (C_take : Cal K mg "_law_take" f_take fd_take ["store", "many"]) (G_take : FnOk P w K mg base CX0 1 f_take fd_take ["store", "many"] (sp_take K))
    (C_pick : Cal K mg "_law_pick" f_pick fd_pick ["store", "items"]) (G_pick : FnOk P w K mg base CX0 2 f_pick fd_pick ["store", "items"] (sp_pick K))
    (C_Web : Mk K C f_Web) (B_Web : Binds K fd_Web ["self", "size", "pairs"] []) (G_Web : FnOk P w K mg base (L2.CX P w) 3 f_Web fd_Web ["self", "size", "pairs"] (sp_web C CR))
    (C_ahead_pairs : Cal K mg "_law_ahead_pairs" f_ahead_pairs fd_ahead_pairs ["rows"]) (G_ahead_pairs : FnOk P w K mg base CX0 1 f_ahead_pairs fd_ahead_pairs ["rows"] (sp_ahead_pairs K))
    (C_asked_right : Cal K mg "_law_asked_right" f_asked_right fd_asked_right ["web", "rows", "pairs"]) (G_asked_right : FnOk P w K mg base CX0 9 f_asked_right fd_asked_right ["web", "rows", "pairs"] (sp_asked_right C)) :
    FnOk P w K mg base CX0 10 f fd ["script"] (sp_law K) := by
  refine F.ok sc_law (fun vs H Q E h => ?_) (fun cdv A outer s H vs Q E hr h => ?_)
  · obtain ⟨_, _, rfl, _⟩ := h
    rfl
  · obtain ⟨a, ns, rfl, hS, hlen, q⟩ := h
    refine ⟨_, (pss_cons (ps_set (i := 1) sc_law.nd rfl (Or.inl rfl) (pe_call G_store (hr.mono (by decide)) (by rfl) C_store.g C_store.kp C_store.b .nil pass0 (pa_cons (pv 0) pa_nil)))
    (pss_cons (ps_set (i := 2) sc_law.nd rfl (Or.inl rfl) (pe_lst (pa_cons (pe_call G_small_web (hr.mono (by decide)) (by rfl) C_small_web.g C_small_web.kp C_small_web.b .nil pass0 (pa_cons (pv 1) (pa_cons (pe_ix (ixL K) (pe_lst (pa_cons pe_int (pa_cons pe_int (pa_cons pe_int (pa_cons pe_int pa_nil))))) (pe_call G_take (hr.mono (by decide)) (by rfl) C_take.g C_take.kp C_take.b .nil pass0 (pa_cons (pv 1) (pa_cons pe_int pa_nil))) (fun _ _ => rfl)) pa_nil))) (pa_cons (pe_call G_small_web (hr.mono (by decide)) (by rfl) C_small_web.g C_small_web.kp C_small_web.b .nil pass0 (pa_cons (pv 1) (pa_cons pe_int pa_nil))) pa_nil))))
    (pss_cons (ps_set (i := 3) sc_law.nd rfl (Or.inl rfl) (pe_lst pa_nil))
    (pss_cons (ps_set (i := 4) sc_law.nd rfl (Or.inl rfl) (pe_lst pa_nil))
    (pss_cons (ps_for PassesOwn.never rfl (pi_list (pv 2)) (pg_tup rfl (pgs_cons (pg_name (i := 5) sc_law.nd rfl (Or.inl rfl)) (pgs_cons (pg_name (i := 6) sc_law.nd rfl (Or.inl rfl)) (pgs_cons (pg_name (i := 7) sc_law.nd rfl (Or.inl rfl)) pgs_nil))))
      (pss_cons (ps_set (i := 8) sc_law.nd rfl (Or.inl rfl) (pe_call G_turned_pairs (hr.mono (by decide)) (by rfl) C_turned_pairs.g C_turned_pairs.kp C_turned_pairs.b .nil pass0 (pa_cons (pv 1) (pa_cons (pv 7) pa_nil))))
        (pss_cons (ps_set (i := 9) sc_law.nd rfl (Or.inl rfl) (pe_call G_turned_pairs (hr.mono (by decide)) (by rfl) C_turned_pairs.g C_turned_pairs.kp C_turned_pairs.b .nil pass0 (pa_cons (pv 1) (pa_cons (pv 7) pa_nil))))
        (pss_cons (ps_set (i := 10) sc_law.nd rfl (Or.inl rfl) (pe_callTy (listK K) (by rfl) T.list (by decide +kernel) (pa_cons (pv 9) pa_nil)))
        (pss_cons (ps_set (i := 11) sc_law.nd rfl (Or.inl rfl) (pe_ix (ixL K) (pe_lst (pa_cons (pv 5) (pa_cons (pe_un un_neg pe_int) (pa_cons (pe_op op_sub (pe_un un_neg (pv 5)) pe_int) (pa_cons (pe_op op_pow pe_int pe_int) pa_nil))))) (pe_call G_take (hr.mono (by decide)) (by rfl) C_take.g C_take.kp C_take.b .nil pass0 (pa_cons (pv 1) (pa_cons pe_int pa_nil))) (fun _ _ => rfl)))
        (pss_cons (ps_set (i := 12) sc_law.nd rfl (Or.inl rfl) (pe_call G_take (hr.mono (by decide)) (by rfl) C_take.g C_take.kp C_take.b .nil pass0 (pa_cons (pv 1) (pa_cons (pv 5) pa_nil))))
        (pss_cons (ps_set (i := 13) sc_law.nd rfl (Or.inl rfl) (pe_lst (pa_cons (pe_tup (pa_cons (pv 11) (pa_cons (pv 12) pa_nil))) (pa_cons (pe_tup (pa_cons (pv 12) (pa_cons (pv 11) pa_nil))) (pa_cons (pe_tup (pa_cons (pv 11) (pa_cons (pe_op op_add (pv 11) pe_int) pa_nil))) pa_nil)))))
        (C8.pss_cut (ps_if (pt_cmpR op_eq (pv 5) pe_int (nomark _))
          (pss_one (ps_set (i := 13) sc_law.nd rfl (Or.inl rfl) (pe_lst (pa_cons (pe_tup (pa_cons (pv 11) (pa_cons (pe_op op_add (pv 11) pe_int) pa_nil))) pa_nil))))
          pss_nil)
        (pss_cons (ps_expr (pe_bm PySem.F.plainAttrs_list PySem.F.slot_list_insert PySem.F.type_list_insert mt_insert (pv 10) (pa_cons (pe_call G_take (hr.mono (by decide)) (by rfl) C_take.g C_take.kp C_take.b .nil pass0 (pa_cons (pv 1) (pa_cons (pe_op op_add (pe_callB (lenK K) (by rfl) T.len PySem.boot_len (pa_cons (pv 10) pa_nil)) pe_int) pa_nil))) (pa_cons (pe_call G_pick (hr.mono (by decide)) (by rfl) C_pick.g C_pick.kp C_pick.b .nil pass0 (pa_cons (pv 1) (pa_cons (pv 13) pa_nil))) pa_nil))))
        (pss_cons (ps_setLc (i := 14) (own := [("a", 17), ("b", 18)]) (g := gTup K 2 (gCons (gName 17) (gCons (gName 18) gNil))) (tt := tYes) rfl sc_law.nd rfl rfl (sw_true rfl rfl rfl (by decide +kernel)) (pi_list (pe_call G_ahead_pairs (hr.mono (by decide)) (by rfl) C_ahead_pairs.g C_ahead_pairs.kp C_ahead_pairs.b .nil pass0 (pa_cons (pv 7) pa_nil))) (blkOk_by (N := ["script", "store", "worlds", "webs", "asked", "size", "pairs", "rows", "one", "two", "bad", "far", "near", "row", "behind_pairs", "at", "turn", "a", "b"]) (sc := defScope s_law) (by decide +kernel)) (fun _ _ _ _ _ => (pg_tup rfl (pgs_cons (pg_name (i := 17) sc_law.nd rfl (Or.inl rfl)) (pgs_cons (pg_name (i := 18) sc_law.nd rfl (Or.inl rfl)) pgs_nil)))) (fun _ _ _ _ _ => pts_nil) (fun _ _ _ _ _ => (pe_tup (pa_cons (pv 18) (pa_cons (pv 17) pa_nil)))))
        (pss_cons (ps_expr (pe_bm PySem.F.plainAttrs_list PySem.F.slot_list_append PySem.F.type_list_append mt_append (pv 4) (pa_cons (pe_lst (pa_cons (pv 8) (pa_cons (pv 9) (pa_cons (pv 10) (pa_cons (pe_lst pa_nil) (pa_cons (pv 14) (pa_cons (pe_op op_cat (pv 8) (pe_slice (slL K) (pv 14) po_none (po_some pe_int))) (pa_cons (pv 8) pa_nil)))))))) pa_nil)))
        (pss_one (ps_expr (pe_bm PySem.F.plainAttrs_list PySem.F.slot_list_append PySem.F.type_list_append mt_append (pv 3) (pa_cons (pe_make (E := fun _ _ _ => False) C_Web G_Web (hr.mono (by decide)) (by rfl) W.g B_Web .nil (passes_call takes_none5 (fun _ _ _ _ h => h)) (pa_cons (pv 5) (pa_cons (pe_callTy (listK K) (by rfl) T.list (by decide +kernel) (pa_cons (pv 6) pa_nil)) pa_nil))) pa_nil)))))))))))))))
    (pss_cons (ps_for PassesOwn.never rfl (pi_range1 rfl T.range (pa_cons pe_int pa_nil)) (pg_name (i := 15) sc_law.nd rfl (Or.inl rfl))
      (pss_one (ps_for PassesOwn.never rfl (pi_range1 rfl T.range (pa_cons pe_int pa_nil)) (pg_name (i := 16) sc_law.nd rfl (Or.inl rfl))
          (pss_one (ps_if (pt_not (ptK K (pe_call G_asked_right (hr.mono (by decide)) (by rfl) C_asked_right.g C_asked_right.kp C_asked_right.b .nil pass0 (pa_cons (pe_ix (ixL K) (pv 3) (pv 16) (fun _ _ => rfl)) (pa_cons (pe_ix (ixT K) (pe_ix (ixL K) (pv 2) (pv 16) (fun _ _ => rfl)) pe_int (fun _ _ => rfl)) (pa_cons (pe_ix (ixL K) (pe_ix (ixL K) (pv 4) (pv 16) (fun _ _ => rfl)) (pv 15) (fun _ _ => rfl)) pa_nil))))))
              (pss_one (ps_ret pe_bl))
              pss_nil)))))
    (pss_one (ps_ret pe_bl)))))))), ?_⟩
    refine ⟨_, rfl, a, ns, rfl, hS, by omega, fun st c H1 sm1 st1 => ?_⟩
    -- worlds
    refine ⟨_, rfl, (by show 4 ≤ sizeLine; decide), fun lp nlp => ?_⟩
    have st1' := st1.new (o := .lst [.int 6, .int 9, .int 12, .int 16]) nlp
    refine ⟨_, rfl, st, c, _, rfl, st1', small9000 (by decide) (by decide), fun r H2 r0 r1 fr2 st2 => ?_⟩
    have hlp : H2 lp = some (.lst [.int 6, .int 9, .int 12, .int 16]) := fr2 _ _ (ne_new st1 nlp) upd_same
    obtain ⟨m, hm, hat⟩ : ∃ m : Nat, m ≤ 16 ∧ atI [V.int 6, V.int 9, V.int 12, V.int 16] r = some (.int (m : Int)) := by
      obtain ⟨k, rfl⟩ := Int.eq_ofNat_of_zero_le r0
      have hk : k < 4 := by omega
      match k, hk with
      | 0, _ => exact ⟨6, by decide, atI_nat rfl⟩
      | 1, _ => exact ⟨9, by decide, atI_nat rfl⟩
      | 2, _ => exact ⟨12, by decide, atI_nat rfl⟩
      | 3, _ => exact ⟨16, by decide, atI_nat rfl⟩
      | k + 4, h => omega
    refine ⟨_, _, _, _, rfl, rfl, SqL.of hlp, hat, st, c, m, rfl, st2, hm, fun t0 l0 r0 n0 ps0 qs0 H3 hn0 fr3 st3 ht0 hl0 hp0 hr0 hi0 hs0 hri0 => ?_⟩
    refine ⟨_, rfl, st, c, 5, rfl, st3, (by decide), fun t1 l1 r1 n1 ps1 qs1 H4 hn1 fr4 st4 ht1 hl1 hp1 hr1 hi1 hs1 hri1 => ?_⟩
    have k4 := keep_fr fr4 st3
    have w0 : WorldV H4 (.ref t0) (n0, clos n0 ps0) := ⟨by show n0 ≤ 16; omega, hri0, t0, l0, r0, ps0, qs0, rfl, k4 _ _ notSt_tup ht0, hl0.keep k4, hp0, hr0.keep k4, hi0, hs0, rfl⟩
    have w1 : WorldV H4 (.ref t1) (n1, clos n1 ps1) := ⟨by show n1 ≤ 16; omega, hri1, t1, l1, r1, ps1, qs1, rfl, ht1, hl1, hp1, hr1, hi1, hs1, rfl⟩
    refine ⟨(by show 2 ≤ sizeLine; decide), fun wl nwl => ?_⟩
    have s5 := same_new (o := .lst [.ref t0, .ref t1]) nwl
    have hW : Each (WorldV (upd H4 wl (.lst [.ref t0, .ref t1]))) [.ref t0, .ref t1] [(n0, clos n0 ps0), (n1, clos n1 ps1)] := Each.cons (w0.keep (keep_same s5)) (Each.cons (w1.keep (keep_same s5)) Each.nil)
    have hwl : (upd H4 wl (.lst [.ref t0, .ref t1])) wl = some (.lst [.ref t0, .ref t1]) := upd_same
    have st5 := st4.same s5
    have nwl5 := ne_new st4 nwl
    generalize upd H4 wl (.lst [.ref t0, .ref t1]) = H5 at s5 hW hwl st5 ⊢
    generalize hwd : [(n0, clos n0 ps0), (n1, clos n1 ps1)] = wd at hW
    have hwdl : wd.length = 2 := by rw [← hwd] <;> rfl
    clear w0 w1 ht0 hl0 hp0 hr0 hi0 hs0 hri0 ht1 hl1 hp1 hr1 hi1 hs1 hri1 hwd
    -- webs, asked
    refine ⟨(by show 0 ≤ sizeLine; decide), fun wb nwb => ?_⟩
    refine ⟨(by show 0 ≤ sizeLine; decide), fun ak nak => ?_⟩
    have nwa : wb ≠ ak := ne_of_none upd_same nak
    have nak0 : H5 ak = none := by rw [upd_ne nwa.symm] at nak; exact nak
    have J0 : LawJ C H5 (upd (upd H5 wb (.lst [])) ak (.lst [])) st c wb ak [] [] (wd.take 0) (wd.take 0) := ⟨st5, nwb, nak0, nwa, Fr.of ((same_new nwb).trans (same_new nak)), (st5.new nwb).new nak, by rw [upd_ne nwa, upd_same], upd_same, Each.nil, Each.nil⟩
    refine ⟨_, rfl, _, rfl, ⟨_, SqL.of (J0.fr _ _ nwl5 hwl)⟩, for_list (xs := [.ref t0, .ref t1]) (fun i σ G => ∃ (ws as : List V) (y5 y6 y7 y8 y9 y10 y11 y12 y13 y14 : Option V), σ = [some (.ref a), some (.ref st), some (.ref wl), some (.ref wb), some (.ref ak), y5, y6, y7, y8, y9, y10, y11, y12, y13, y14, none, none, none, none] ∧ LawJ C H5 G st c wb ak ws as (wd.take i) (wd.take i))
      ⟨[], [], none, none, none, none, none, none, none, none, none, none, rfl, J0⟩ (fun i σ G _ h => ?_) ?_ ?_⟩
    · obtain ⟨_, _, _, _, _, _, _, _, _, _, _, _, _, h⟩ := h
      exact SqL.of (h.fr _ _ nwl5 hwl)
    · rintro i v σ G hv ⟨ws, as, y5, y6, y7, y8, y9, y10, y11, y12, y13, y14, rfl, J⟩
      obtain ⟨⟨n, M⟩, hnm, hw⟩ := hW.2 i v hv
      obtain ⟨hn, hri, t, l, r, ps, qs, rfl, ht5, hl5, hp, hr5, hi, hs, hM⟩ := hw
      have kJ := keep_fr J.fr st5
      have ht := kJ _ _ notSt_tup ht5
      have hr := hr5.keep kJ
      refine ⟨t, _, rfl, SqT.of ht, rfl, _, _, rfl, _, _, rfl, _, _, rfl, rfl, ?_⟩
      have hn : n ≤ 16 := hn
      have hri : Rises n M := hri
      have hM : M = clos n ps := hM
      -- one, two
      refine ⟨_, rfl, _, rfl, st, c, r, n, M, rfl, J.st_, hr, hn, hri, fun one p1 G1 f1 s1 non1 hone in1 len1 => ?_⟩
      have J1 := J.go f1 s1
      have k1 := keep_fr f1 J.st_
      refine ⟨_, rfl, _, rfl, st, c, r, n, M, rfl, s1, hr.keep k1, hn, hri, fun two p2 G2 f2 s2 non2 htwo in2 len2 => ?_⟩
      have J2 := J1.go f2 s2
      have k2 := keep_fr f2 s1
      have k02 := k1.trans k2
      obtain ⟨xs2, hx2, he2⟩ := htwo
      have hxl2 : xs2.length ≤ 5000 := by rw [he2.1]; exact len2
      -- bad
      refine ⟨_, rfl, _, _, rfl, .inl (SqL.of hx2), fun bad nbad => ?_⟩
      have sm3 : Same G2 (upd G2 bad (.lst xs2)) := same_new nbad
      have J3 := J2.same sm3
      have hbad3 : (upd G2 bad (.lst xs2)) bad = some (.lst xs2) := upd_same
      have nbs := ne_new s2 nbad
      have f3 : Fr st G2 (upd G2 bad (.lst xs2)) := Fr.of sm3
      generalize upd G2 bad (.lst xs2) = G3 at sm3 J3 hbad3 f3 ⊢
      -- far
      refine ⟨_, rfl, _, rfl, _, rfl, _, rfl, _, _, rfl, rfl, _, _, rfl, rfl, ⟨by decide, by decide, by decide⟩, (by show 4 ≤ sizeLine; decide), fun fp nfp => ?_⟩
      have sm4 := same_new (o := .lst [V.int (n : Int), V.int (-1), V.int (-(n : Int) - 1), V.int (10 ^ (59 : Int).toNat)]) nfp
      have J4 := J3.same sm4
      refine ⟨_, rfl, st, c, _, rfl, J4.st_, small9000 (by decide) (by decide), fun z G5 z0 z1 f5 s5 => ?_⟩
      have J5 := J4.go f5 s5
      have hfp : G5 fp = some (.lst [V.int (n : Int), V.int (-1), V.int (-(n : Int) - 1), V.int (10 ^ (59 : Int).toNat)]) := f5 _ _ (ne_new J3.st_ nfp) upd_same
      obtain ⟨far, hfar, hat2⟩ : ∃ far : Int, far.natAbs ≤ 10 ^ 59 ∧ atI [V.int (n : Int), V.int (-1), V.int (-(n : Int) - 1), V.int (10 ^ (59 : Int).toNat)] z = some (.int far) := by
        obtain ⟨k, rfl⟩ := Int.eq_ofNat_of_zero_le z0
        have hk : k < 4 := by omega
        match k, hk with
        | 0, _ => exact ⟨n, Nat.le_trans (show (n : Int).natAbs ≤ 16 by omega) (by decide +kernel), atI_nat rfl⟩
        | 1, _ => exact ⟨-1, by decide +kernel, atI_nat rfl⟩
        | 2, _ => exact ⟨-(n : Int) - 1, Nat.le_trans (show (-(n : Int) - 1).natAbs ≤ 17 by omega) (by decide +kernel), atI_nat rfl⟩
        | 3, _ => exact ⟨10 ^ (59 : Int).toNat, by decide +kernel, atI_nat rfl⟩
        | k + 4, h => omega
      refine ⟨_, _, _, _, rfl, rfl, SqL.of hfp, hat2, ?_⟩
      -- near
      refine ⟨_, rfl, _, rfl, st, c, _, rfl, J5.st_, small9000 (by show (0 : Int) ≤ n; omega) (by show (n : Int) ≤ 1000000; omega), fun near G6 near0 near1 f6 s6 => ?_⟩
      have near1 : near < n ∨ near < 1 := near1
      have J6 := J5.go f6 s6
      have f26 : Fr st G2 G6 := (f3.trans (Fr.of sm4)).trans (f5.trans f6)
      have hbad6 : G6 bad = some (.lst xs2) := f6 _ _ nbs (f5 _ _ nbs (sm4 _ _ hbad3))
      have sf : far.natAbs < 2 ^ 999 := small999 (Nat.le_trans hfar (by decide +kernel))
      have sf1 : (far + 1).natAbs < 2 ^ 999 := small999 (Nat.le_trans (show (far + 1).natAbs ≤ 10 ^ 59 + 1 by omega) (by decide +kernel))
      have sn : near.natAbs < 2 ^ 999 := small999 (Nat.le_trans (show near.natAbs ≤ 16 by omega) (by decide +kernel))
      -- row
      refine ⟨_, rfl, _, rfl, (by show 2 ≤ sizeLine; decide), fun t1' nt1 => ?_⟩
      refine ⟨_, rfl, _, rfl, (by show 2 ≤ sizeLine; decide), fun t2' nt2 => ?_⟩
      refine ⟨_, rfl, _, rfl, _, _, rfl, rfl, (by show 2 ≤ sizeLine; decide), fun t3' nt3 => ?_⟩
      refine ⟨(by show 3 ≤ sizeLine; decide), fun rw1 nrw1 => ?_⟩
      -- if size == 0
      have a1 := same_new (o := .tup [V.int far, V.int near]) nt1
      have a2 := same_new (o := .tup [V.int near, V.int far]) nt2
      have a3 := same_new (o := .tup [V.int far, V.int (far + 1)]) nt3
      have a4 := same_new (o := .lst [V.ref t1', V.ref t2', V.ref t3']) nrw1
      have sr : Smal [(far, near), (near, far), (far, far + 1)] := fun p hp => by
        rcases List.mem_cons.mp hp with rfl | hp
        · exact smal_pt sf sn
        · rcases List.mem_cons.mp hp with rfl | hp
          · exact smal_pt sn sf
          · rw [List.mem_singleton] at hp
            rw [hp]
            exact smal_pt sf sf1
      refine ⟨fun σ' G' => ∃ (rw_ : Addr) (xr : List V) (pr : List (Int × Int)), σ' = [some (.ref a), some (.ref st), some (.ref wl), some (.ref wb), some (.ref ak), some (.int n), some (.ref l), some (.ref r), some (.ref one), some (.ref two), some (.ref bad), some (.int far), some (.int near), some (.ref rw_), y14, none, none, none, none] ∧
        Same G6 G' ∧ G' rw_ = some (.lst xr) ∧ Each (PairV G') xr pr ∧ Smal pr ∧ xr ≠ [] ∧ xr.length ≤ 3, ?_, ?_⟩
      · refine ⟨_, rfl, rfl, _, rfl, ite2 (fun c0 => ?_) (fun c0 => ?_)⟩
        · refine ⟨_, rfl, _, rfl, _, _, rfl, rfl, (by show 2 ≤ sizeLine; decide), fun t4' nt4 => ?_⟩
          refine ⟨(by show 1 ≤ sizeLine; decide), fun rw2 nrw2 => ?_⟩
          have a5 := same_new (o := .tup [V.int far, V.int (far + 1)]) nt4
          have a6 := same_new (o := .lst [V.ref t4']) nrw2
          exact ⟨rw2, _, [(far, far + 1)], rfl, a1.trans (a2.trans (a3.trans (a4.trans (a5.trans a6)))), upd_same, Each.cons ⟨t4', rfl, a6 _ _ upd_same⟩ Each.nil, fun p hp => sr p (by rw [List.mem_singleton] at hp; rw [hp]; simp), by simp, by show 1 ≤ 3; decide⟩
        · exact ⟨rw1, _, [(far, near), (near, far), (far, far + 1)], rfl, a1.trans (a2.trans (a3.trans a4)), upd_same, Each.cons ⟨t1', rfl, a4 _ _ (a3 _ _ (a2 _ _ upd_same))⟩ (Each.cons ⟨t2', rfl, a4 _ _ (a3 _ _ upd_same)⟩ (Each.cons ⟨t3', rfl, a4 _ _ upd_same⟩ Each.nil)), sr, by simp, by show 3 ≤ 3; decide⟩
      · rintro σ' G7 ⟨rw_, xr, pr, rfl, sm7, hrw, her, hsr, hxr, hxrl⟩
        clear a1 a2 a3 a4 nt1 nt2 nt3 nrw1
        have J7 := J6.same sm7
        have f27 := f26.trans (Fr.of sm7)
        have hbad7 := sm7 _ _ hbad6
        have nrws := ne_st J7.st_ hrw (notSt_pairs her)
        -- bad.insert(..)
        refine ⟨_, rfl, .inl ⟨rfl, _, SqL.of hbad7⟩, _, rfl, _, rfl, _, _, rfl, .inl (SqL.of hbad7), _, _, rfl, rfl, st, c, _, rfl, J7.st_, small9000 (by omega) (by omega), fun k G8 k0 k1' f8 s8 => ?_⟩
        have J8 := J7.go f8 s8
        refine ⟨_, rfl, _, rfl, st, c, rw_, xr, rfl, s8, f8 _ _ nrws hrw, nrws, hxr, by omega, fun x G9 hx f9 s9 => ?_⟩
        have J9 := J8.go f9 s9
        have f29 := f27.trans (f8.trans f9)
        have hbad9 : G9 bad = some (.lst xs2) := f9 _ _ nbs (f8 _ _ nbs hbad7)
        obtain ⟨px, hpx, hvx⟩ := her.mem hx
        have hvx := hvx.keep ((keep_fr f8 J7.st_).trans (keep_fr f9 s8))
        refine ⟨_, _, _, _, rfl, rfl, hbad9, size_lt (by omega), k0, by omega, ?_⟩
        have f210 := f29.mut (o := .lst (xs2.take k.toNat ++ [x] ++ xs2.drop k.toNat)) nbad
        have s10 := s2.mut (o := .lst (xs2.take k.toNat ++ [x] ++ xs2.drop k.toNat)) nbad J9.st_
        have hb10 : (upd G9 bad (.lst (xs2.take k.toNat ++ [x] ++ xs2.drop k.toNat))) bad = some (.lst (xs2.take k.toNat ++ [x] ++ xs2.drop k.toNat)) := upd_same
        have hv10 : PairV (upd G9 bad (.lst (xs2.take k.toNat ++ [x] ++ xs2.drop k.toNat))) x px := PairV.upd hbad9 hvx
        generalize upd G9 bad (.lst (xs2.take k.toNat ++ [x] ++ xs2.drop k.toNat)) = G10 at f210 s10 hb10 hv10 ⊢
        have J10 := J2.go f210 s10
        have k210 := keep_fr f210 s2
        have ask1 : AskP G10 one := ⟨p1, hone.keep (k2.trans k210), by omega, smal_inr hn in1⟩
        have ask2 : AskP G10 two := ⟨p2, (show PairsAt G2 two p2 from ⟨xs2, hx2, he2⟩).keep k210, by omega, smal_inr hn in2⟩
        have askb : AskP G10 bad := ⟨p2.take k.toNat ++ [px] ++ p2.drop k.toNat, ⟨_, hb10, (each_keep k210 he2).ins hv10 k.toNat⟩, by
          rw [List.length_append, List.length_append, List.length_take, List.length_drop, List.length_singleton]
          omega, fun p hp => by
          rcases List.mem_append.mp hp with hp | hp
          · rcases List.mem_append.mp hp with hp | hp
            · exact smal_inr hn in2 p (List.mem_of_mem_take hp)
            · rw [List.mem_singleton] at hp
              rw [hp]
              exact hsr px hpx
          · exact smal_inr hn in2 p (List.mem_of_mem_drop hp)⟩
        have hr10 := hr.keep (k02.trans k210)
        obtain ⟨xs1, hx1, he1⟩ := hone.keep (k2.trans k210)
        clear hbad9 hvx hbad7 hrw her J9 J8 J7 J6 J5 J4 J3
        -- behind_pairs
        refine ⟨_, rfl, r, n, M, rfl, hr10, by omega, fun ap G11 sm11 nap hap => ?_⟩
        obtain ⟨ys, hy1, hy2⟩ := hap
        have nn : n * n ≤ 16 * 16 := Nat.mul_le_mul hn hn
        have hapl : (aheadP n M).length ≤ 256 := by
          have k := aheadP_len (n := n) (M := M) n
          unfold aheadP
          omega
        refine ⟨_, rfl, ⟨_, SqL.of hy1⟩, fun D hD => lc_list (xs := ys) (fun i G => ∃ zs, G D = some (.lst zs) ∧ Same G11 G ∧ Each (PairV G) zs (swapP ((aheadP n M).take i))) ⟨[], upd_same, same_new hD, Each.nil⟩ (fun i G _ h => ?_) ?_ ?_⟩
        · obtain ⟨_, _, h, _⟩ := h
          exact SqL.of (h _ _ hy1)
        · rintro i v G hv ⟨zs, hz, sm, hzs⟩
          obtain ⟨⟨a, b⟩, hp, t, rfl, ht⟩ := hy2.2 i v hv
          have ht2 := sm _ _ ht
          have hi : i < (aheadP n M).length := (List.getElem?_eq_some_iff.mp hp).1
          refine ⟨t, _, rfl, SqT.of ht2, rfl, _, _, rfl, _, _, rfl, rfl, ?_⟩
          refine ⟨rfl, _, rfl, _, rfl, (by show 2 ≤ sizeLine; decide), fun u nu => ?_⟩
          have nD : D ≠ u := ne_of_none hz nu
          have hzu : (upd G u (.tup [.int b, .int a])) D = some (.lst zs) := by rw [upd_ne nD]; exact hz
          refine ⟨zs, hzu, size_lt (by rw [hzs.1]; unfold swapP; rw [List.length_map, List.length_take]; omega), zs ++ [.ref u], upd_same, same_mut (sm.trans (same_new nu)) hD, ?_⟩
          rw [take_more hp]
          unfold swapP
          rw [List.map_append]
          exact Each.snoc (each_upd hzu (each_keep (keep_same (same_new nu)) hzs)) (PairV.upd hzu ⟨u, rfl, upd_same⟩)
        · rintro G12 ⟨zs, hz, sm12, hzs⟩
          rw [hy2.1, List.take_length] at hzs
          have sm10 : Same G10 G12 := sm11.trans sm12
          have J12 := J10.same sm10
          have hsw : (swapP (aheadP n M)).length ≤ 256 := by unfold swapP; rw [List.length_map]; exact hapl
          have hswS : Smal (swapP (aheadP n M)) := smal_inr hn (swap_inr aheadP_inr)
          -- asked.append(..)
          refine ⟨_, rfl, .inl ⟨rfl, _, SqL.of J12.ha⟩, _, rfl, _, rfl, _, rfl, (by show 0 ≤ sizeLine; decide), fun e ne => ?_⟩
          have sme := same_new (o := .lst []) ne
          refine ⟨_, rfl, _, rfl, _, rfl, _, rfl, _, _, rfl, SqL.of (sme _ _ hz), fun sl nsl => ?_⟩
          rw [cut_int _ (show (0 : Int) ≤ 3 by decide)]
          have sms := same_new (o := .lst (zs.take (3 : Int).toNat)) nsl
          have smos := sm10.trans (sme.trans sms)
          have hzl : zs.length ≤ 256 := by rw [hzs.1]; exact hsw
          have hxl1 : xs1.length ≤ 5000 := by rw [he1.1]; exact len1
          refine ⟨_, _, _, _, rfl, rfl, smos _ _ hx1, upd_same, size_le (by rw [List.length_take]; omega), fun cp ncp => ?_⟩
          have smc := same_new (o := .lst (xs1 ++ zs.take (3 : Int).toNat)) ncp
          refine ⟨_, rfl, (by show 7 ≤ sizeLine; decide), fun al nal => ?_⟩
          have sma := same_new (o := .lst [V.ref one, V.ref two, V.ref bad, V.ref e, V.ref D, V.ref cp, V.ref one]) nal
          have J11 := J10.same sm11
          have Je := J12.same sme
          have Js := Je.same sms
          have Jc := Js.same smc
          have Ja := Jc.same sma
          have oD := J11.off hD
          have oe := J12.off ne
          have oc := Js.off ncp
          have oa := Jc.off nal
          have o1 := J.off non1
          have o2 := J1.off non2
          have ob := J2.off nbad
          refine ⟨_, _, _, rfl, rfl, Ja.ha, size_lt (by rw [Ja.ea.1, List.length_take]; omega), ?_⟩
          have kca := keep_same (smc.trans sma)
          have k10a := keep_same (smos.trans (smc.trans sma))
          have asks : AskV (hid wb (hid ak (upd (upd (upd (upd G12 e (.lst [])) sl (.lst (zs.take (3 : Int).toNat))) cp (.lst (xs1 ++ zs.take (3 : Int).toNat))) al (.lst [V.ref one, V.ref two, V.ref bad, V.ref e, V.ref D, V.ref cp, V.ref one])))) (.ref al) := by
            refine ⟨al, [one, two, bad, e, D, cp, one], rfl, hid_at (hid_at upd_same oa.2) oa.1, rfl, fun r hr => ?_⟩
            have hE : AskP (upd G12 e (.lst [])) e := ⟨[], ⟨[], upd_same, Each.nil⟩, by decide, fun p hp => by simp at hp⟩
            have hDD : AskP G12 D := ⟨_, ⟨zs, hz, hzs⟩, by omega, hswS⟩
            have hC : AskP (upd (upd (upd G12 e (.lst [])) sl (.lst (zs.take (3 : Int).toNat))) cp (.lst (xs1 ++ zs.take (3 : Int).toNat))) cp := by
              refine ⟨p1 ++ (swapP (aheadP n M)).take (3 : Int).toNat, ⟨_, upd_same, (each_keep (keep_same (smos.trans smc)) he1).append (each_keep (keep_same (sme.trans (sms.trans smc))) (hzs.take _))⟩, ?_, (smal_inr hn in1).app fun p hp => hswS p (List.mem_of_mem_take hp)⟩
              rw [List.length_append, List.length_take]
              omega
            rcases List.mem_cons.mp hr with rfl | hr
            · exact Ja.apart o1 (ask1.keep k10a)
            · rcases List.mem_cons.mp hr with rfl | hr
              · exact Ja.apart o2 (ask2.keep k10a)
              · rcases List.mem_cons.mp hr with rfl | hr
                · exact Ja.apart ob (askb.keep k10a)
                · rcases List.mem_cons.mp hr with rfl | hr
                  · exact Ja.apart oe (hE.keep (keep_same (sms.trans (smc.trans sma))))
                  · rcases List.mem_cons.mp hr with rfl | hr
                    · exact Ja.apart oD (hDD.keep (keep_same (sme.trans (sms.trans (smc.trans sma)))))
                    · rcases List.mem_cons.mp hr with rfl | hr
                      · exact Ja.apart oc (hC.keep (keep_same sma))
                      · rw [List.mem_singleton] at hr
                        rw [hr]
                        exact Ja.apart o1 (ask1.keep k10a)
          have Jb := Ja.ask (nm := (n, M)) asks
          generalize upd (upd (upd (upd G12 e (.lst [])) sl (.lst (zs.take (3 : Int).toNat))) cp (.lst (xs1 ++ zs.take (3 : Int).toNat))) al (.lst [V.ref one, V.ref two, V.ref bad, V.ref e, V.ref D, V.ref cp, V.ref one]) = Ga at Ja Jb sma ⊢
          -- webs.append(Web(size, list(pairs)))
          generalize hGb : upd Ga ak (.lst (as ++ [V.ref al])) = Gb at Jb ⊢
          obtain ⟨xl, hxl, hel⟩ := hl5.keep (keep_fr Jb.fr st5)
          refine ⟨_, rfl, .inl ⟨rfl, _, SqL.of Jb.hw⟩, _, rfl, _, rfl, _, _, rfl, .inl (SqL.of hxl), fun lp2 nlp2 => ?_⟩
          have smb := same_new (o := .lst xl) nlp2
          intro x dx nx ndx hne
          have smm : Same Gb (upd (upd (upd Gb lp2 (.lst xl)) dx (.own x)) x (.ins C dx [])) := smb.trans ((same_new ndx).trans (same_new (by rw [upd_ne hne.symm]; exact nx)))
          have s3m : Same (upd Gb lp2 (.lst xl)) (upd (upd (upd Gb lp2 (.lst xl)) dx (.own x)) x (.ins C dx [])) := (same_new ndx).trans (same_new (by rw [upd_ne hne.symm]; exact nx))
          have hcl : clos n qs = M := by
            rw [hM]
            unfold clos
            rw [initM_perm hp]
          have hinq : InR n qs := fun p hq => hi p (hp.mem_iff.mp hq)
          refine ⟨x, lp2, dx, n, qs, rfl, upd_same, hn, ⟨xl, s3m _ _ upd_same, each_keep (keep_same smm) hel⟩, hinq, fun hno Gd fd wd' => ?_, fun hbad => ?_⟩
          · have smd : Same Gb Gd := fun b o eb => fd b o (fun z => by rw [z, smb.free nx] at eb; cases eb) (smm b o eb)
            have Jd := Jb.same smd
            rw [hcl] at wd'
            have hm1 : (upd (upd (upd Gb lp2 (.lst xl)) dx (.own x)) x (.ins C dx [])) ak ≠ none := by rw [smm _ _ Jb.ha]; intro z; cases z
            have hm2 : (upd (upd (upd Gb lp2 (.lst xl)) dx (.own x)) x (.ins C dx [])) wb ≠ none := by rw [smm _ _ Jb.hw]; intro z; cases z
            have wV : WebV C (hid wb (hid ak Gd)) (.ref x) (n, M) := ⟨x, rfl, (web_apart (hid_at Jd.hw Jd.ne) hm2 (web_apart Jd.ha hm1 wd')).at_⟩
            refine ⟨rfl, _, _, _, rfl, rfl, Jd.hw, size_lt (by rw [Jd.ew.1, List.length_take]; omega), ?_⟩
            refine ⟨ws ++ [V.ref x], as ++ [V.ref al], _, _, _, _, _, _, _, _, _, _, rfl, ?_⟩
            rw [take_more hnm]
            exact Jd.web wV
          · obtain ⟨d, hd, hT⟩ := hbad
            rw [hcl, hri.irr hd] at hT
            cases hT
    · rintro σ G ⟨ws, as, y5, y6, y7, y8, y9, y10, y11, y12, y13, y14, rfl, J⟩
      have e2 : wd.take ([V.ref t0, V.ref t1].length) = wd := List.take_of_length_le (by rw [hwdl]; exact Nat.le_refl 2)
      rw [e2] at J
      have hunk : Keep (hid wb (hid ak G)) G := fun b o _ e => (hid_of (hid_of e).1).1
      have hWG := hW.mono fun v nm _ h => h.keep (keep_fr J.fr st5)
      have hwlG := J.fr _ _ nwl5 hwl
      refine ⟨_, rfl, (by omega), (by omega), for_range (lo := 0) (n := 7) (fun i σ G' => ∃ (y15 y16 : Option V), σ = [some (.ref a), some (.ref st), some (.ref wl), some (.ref wb), some (.ref ak), y5, y6, y7, y8, y9, y10, y11, y12, y13, y14, y15, y16, none, none] ∧ Same G G') ⟨none, none, rfl, Same.refl _⟩ ?_ ?_⟩
      · rintro i σ G1 hi ⟨y15, y16, rfl, g1⟩
        refine ⟨_, rfl, (by omega), (by omega), for_range (lo := 0) (n := 2) (fun j σ G' => ∃ (y16 : Option V), σ = [some (.ref a), some (.ref st), some (.ref wl), some (.ref wb), some (.ref ak), y5, y6, y7, y8, y9, y10, y11, y12, y13, y14, some (.int (0 + (i : Int))), y16, none, none] ∧ Same G G') ⟨_, rfl, g1⟩ ?_ ?_⟩
        · rintro j σ G2 hj ⟨z16, rfl, g2⟩
          have hjl : j < wd.length := by omega
          have hjw : j < ws.length := by rw [J.ew.1]; exact hjl
          have hja : j < as.length := by rw [J.ea.1]; exact hjl
          have ew := List.getElem?_eq_getElem hjw
          have ea := List.getElem?_eq_getElem hja
          obtain ⟨t, et, l, r, ps, qs, ht, hr, hn, hri, x, ex, hx, rr, er, asks⟩ : ∃ (t : Addr), [V.ref t0, V.ref t1][j]? = some (.ref t) ∧ ∃ (l r : Addr) (ps qs : List (Int × Int)), G t = some (.tup [.int (wd[j].1 : Int), .ref l, .ref r]) ∧ RowsAt G r wd[j].1 wd[j].2 ∧ wd[j].1 ≤ 16 ∧ Rises wd[j].1 wd[j].2 ∧
              ∃ x, ws[j] = .ref x ∧ WebAt C G x wd[j].1 wd[j].2 ∧ ∃ rr, as[j] = .ref rr ∧ ∃ rs : List Addr, G rr = some (.lst (rs.map V.ref)) ∧ rs.length = 7 ∧ ∀ r ∈ rs, AskP G r := by
            have hjt : j < [V.ref t0, V.ref t1].length := hj
            have et := List.getElem?_eq_getElem hjt
            obtain ⟨nm, e1, hn, hri, t, l, r, ps, qs, ev, ht, hl, hp, hr, hi, hs, hM⟩ := hWG.2 j _ et
            rw [List.getElem?_eq_getElem hjl] at e1
            obtain rfl := Option.some.inj e1
            obtain ⟨nm, e2, x, ex, hx⟩ := J.ew.2 j _ ew
            rw [List.getElem?_eq_getElem hjl] at e2
            obtain rfl := Option.some.inj e2
            obtain ⟨nm, e3, rr, rs, er, h1, h2, h3⟩ := J.ea.2 j _ ea
            exact ⟨t, by rw [et, ev], l, r, ps, qs, ht, hr, hn, hri, x, ex, hx.keep hunk, rr, er, rs, hunk _ _ notSt_refs h1, h2, fun r hr => (h3 r hr).keep hunk⟩
          obtain ⟨rs, h1, h2, h3⟩ := asks
          rw [ex] at ew
          rw [er] at ea
          have hi7 : i < rs.length := by omega
          have e7 := List.getElem?_eq_getElem hi7
          have e7v : (rs.map V.ref)[i]? = some (.ref rs[i]) := by rw [List.getElem?_map, e7] <;> rfl
          obtain ⟨pz, hpz, hpl, hps⟩ := h3 _ (List.getElem_mem hi7)
          have kk := keep_same g2
          refine ⟨_, rfl, _, rfl, _, _, _, _, rfl, rfl, SqL.of (g2 _ _ J.hw), at_zero ew, _, rfl, _, rfl, _, _, _, _, rfl, rfl, SqL.of (g2 _ _ hwlG), at_zero et, _, _, _, _, rfl, rfl, SqT.of (g2 _ _ ht), atI_nat (j := 2) rfl, _, rfl, _, rfl, _, _, _, _, rfl, rfl, SqL.of (g2 _ _ J.ha), at_zero ea, _, rfl, _, _, _, _, rfl, rfl, SqL.of (g2 _ _ h1), at_zero e7v, x, r, rs[i], wd[j].1, wd[j].2, pz, rfl, hx.keep kk, hr.keep kk, hn, hri, hpz.keep kk, hpl, hps, fun G3 g3 => ?_⟩
          refine ⟨true, rfl, iteF ⟨_, rfl, g2.trans g3⟩⟩
        · rintro σ G2 ⟨z16, rfl, g2⟩
          exact ⟨_, _, rfl, g2⟩
      · rintro σ G1 ⟨y15, y16, rfl, g1⟩
        exact q G1
end
end Few
set_option maxHeartbeats 2000000
/-! What the top has written, each fact a Bool that the kernel computes. -/
namespace Few
open PySem PySem.W PySem.Spec PyProof.Rows L2 NdefX
section
variable {K : Frag}
theorem fun_of {x qual : Str} {st : Stmt} {f : Addr} {fd : FuncData} (F : FunD K x qual (defArgs st) (defBody st) (defScope st) [] [] f fd) : Fun K x qual st f fd := by
  obtain ⟨⟨oc, od, dV, kV, doc, pm, an, cdv, ct, osl, e, lk, hcd, hD, _⟩, kp⟩ := F
  rcases hD with ⟨_, rfl⟩ | ⟨h, _⟩
  · exact ⟨⟨oc, od, kV, doc, pm, an, cdv, ct, osl, e, lk, hcd⟩, kp⟩
  · exact absurd rfl h
/-! ### own errors with super().__init__ -/
/-- the cell of an own error's __init__ -/
def ccOf (K : Frag) (x : Str) : Addr := match K.lookup (He.fAd K (x, some "__init__")) with
  | some ⟨_, _, .func fd, _⟩ => (match fd.closure with
    | [(_, c)] => c
    | _ => 0)
  | _ => 0
def oexcB (K : Frag) (C : Addr) : Bool := match K.lookup C with
  | some ⟨.type c, _, .cls cd, sl⟩ => decide (c = "type") && (match cd.mro, sl.toList with
    | .ref C' :: bm, [_, _, _, _, some (.builtin n), _] => decide (C' = C) && (decide (n = "ValueError.__new__") && (!cd.hasDel && (cd.hasDict && PySem.HandSPX.refsVE bm)))
    | _, _ => false)
  | _ => false
theorem oexcB_ok {C : Addr} (h : oexcB K C = true) : ∃ nm q N bs bm sn sub ab col dd k0 k1 k2 k3 k5, K.lookup C = some (excClassObj nm q C N bs bm true sn sub ab col dd k0 k1 k2 k3 k5 "ValueError.__new__") ∧ PySem.HandSPX.refsVE bm = true := by
  unfold oexcB at h
  split at h
  · rename_i c od cd sl ho
    obtain ⟨hc, h⟩ := Bool.and_eq_true_iff.mp h
    have hc := of_decide_eq_true hc
    subst hc
    split at h
    · rename_i C' bm k0 k1 k2 k3 n k5 hm hs
      obtain ⟨_, h⟩ := Bool.and_eq_true_iff.mp h
      obtain ⟨h1, h⟩ := Bool.and_eq_true_iff.mp h
      obtain ⟨h2, h⟩ := Bool.and_eq_true_iff.mp h
      obtain ⟨h3, h⟩ := Bool.and_eq_true_iff.mp h
      obtain ⟨h4, h5⟩ := Bool.and_eq_true_iff.mp h
      have g1 := of_decide_eq_true h1
      have g2 := of_decide_eq_true h2
      have g3 : cd.hasDel = false := by simpa using h3
      have g4 : cd.hasDict = true := h4
      clear h1 h2 h3 h4 h
      obtain ⟨nm, bs, mro, ns, qn, hd, sn, sub, ab, col, del⟩ := cd
      dsimp only at hm g3 g4
      subst hm g3 g1 g2 g4
      have hsl : sl = #[k0, k1, k2, k3, some (.builtin "ValueError.__new__"), k5] := by
        obtain ⟨l⟩ := sl
        simp only at hs
        rw [hs]
      subst hsl
      exact ⟨nm, qn, ns, bs, bm, sn, sub, ab, col, od, k0, k1, k2, k3, k5, ho, h5⟩
    · cases h
  · cases h
def isSomeTrue (o : Option Bool) : Bool := decide (o = some true)
def cellB (K : Frag) (cc C : Addr) : Bool := match K.lookup cc with
  | some ⟨_, _, .cell (some (.ref D)), _⟩ => decide (D = C)
  | _ => false
theorem cellB_ok {cc C : Addr} (h : cellB K cc C = true) : ∃ cl cld csl, K.lookup cc = some ⟨cl, cld, .cell (some (.ref C)), csl⟩ := by
  unfold cellB at h
  split at h
  · rename_i a b D c ho
    have := of_decide_eq_true h
    subst this
    exact ⟨_, _, _, ho⟩
  · cases h
def codeB (K : Frag) (f : Addr) (qual file : Str) : Bool := match K.lookup f with
  | some ⟨_, _, .func ⟨_, _, _, _, _, _, _, .none, .none, _, _, none, .ref cda, _, _⟩, _⟩ => codeIn K (.ref cda) qual && (match K.lookup cda with
    | some ⟨_, _, .fields vs, _⟩ => (match vs[2]? with
      | some (Value.str y _) => file == y
      | _ => false)
    | _ => false)
  | _ => false
def fnWV (qual : Str) (st : Stmt) (cc : Addr) : He.FnW := some (("__init__" : Str), qual, defArgs st, FuncBody.stmts (defBody st), defScope st, mainGlobals, [(("__class__" : Str), cc)], builtinsNs)
theorem codeB_ok {f cc : Addr} {qual file : Str} {st : Stmt} {p : Str × Option Str} (ef : f = He.fAd K p) (h : codeB K f qual file = true) (e : He.fnW K p = fnWV qual st cc) :
    ∃ oc od doc pm ctv osl cda, K.lookup f = some ⟨oc, od, .func ((supF qual st cc cda).fd doc pm ctv), osl⟩ ∧ codeIn K (.ref cda) qual = true ∧ ∃ ccl cdd vs ccs file' tf, K.lookup cda = some ⟨ccl, cdd, .fields vs, ccs⟩ ∧ vs[2]? = some (.str file' tf) ∧ (file == file') = true := by
  subst ef
  unfold codeB at h
  split at h
  · rename_i oc od n1 n2 n3 n4 n5 n6 n7 doc pm cda ct bn osl ho
    unfold He.fnW at e
    rw [ho] at e
    have e2 : (some (n1, n2, n3, n4, n5, n6, n7, bn) : He.FnW) = fnWV qual st cc := e
    unfold fnWV at e2
    simp only [Option.some.injEq, Prod.mk.injEq] at e2
    obtain ⟨h1, h2, h3, h4, h5, h6, h7, h8⟩ := e2
    subst h1 h2 h3 h4 h5 h6 h7 h8
    obtain ⟨k1, k2⟩ := Bool.and_eq_true_iff.mp h
    split at k2
    · rename_i ccl cdd vs ccs hc
      split at k2
      · rename_i y tf hv
        exact ⟨oc, od, doc, pm, ct, osl, cda, ho, k1, ccl, cdd, vs, ccs, y, tf, hc, hv, k2⟩
      · cases k2
    · cases k2
  · cases h
/-- all that is asked of an own error x with the field fld -/
def errB (K : Frag) (file x qual fld : Str) : Bool :=
  oexcB K (He.ga K x) && (He.eqO (findIn K (.ref (He.ga K x)) "__setattr__") (some (some (.builtin "object.__setattr__"))) && (isSomeTrue (subIn K (.ref (He.ga K x)) (.type "BaseException")) && (decide (typeIn K (.ref (He.ga K x)) = some (.type "type")) && (keepIn K (.ref (He.ga K x)) &&
  (cellB K (ccOf K x) (He.ga K x) && (codeB K (He.fAd K (x, some "__init__")) qual file && ((clsIn K (He.ga K x)).isSome && (isSomeTrue (mroIn K (He.ga K x) (.ref (He.ga K x))) && (He.eqO (ks_superIn K (He.ga K x) (He.ga K x) "__init__") (some (some (.builtin "ValueError.__init__"))) &&
  (isSomeTrue (subIn K (.ref (He.ga K x)) (.type "ValueError")) && (He.eqO (nsIn K cStatics "thirdparty.any") (some none) && (He.eqO (findIn K (.ref (He.ga K x)) "__init__") (some (some (.ref (He.fAd K (x, some "__init__"))))) && (decide (typeIn K (.ref (He.fAd K (x, some "__init__"))) = some (.type "function")) &&
  (He.eqO (findIn K (.ref (He.ga K x)) fld) (some none) && He.eqO (nsIn K mainGlobals x) (some (some (.ref (He.ga K x))))))))))))))))))
abbrev errW (K : Frag) (x qual : Str) (st : Stmt) : Prop := He.fnW K (x, some "__init__") = fnWV qual st (ccOf K x)
section
variable {P : Program} {mg : Str → Option Value} {h : Heap}
theorem err_ok {x qual fld : Str} {st : Stmt} (X : K.In h) (G : h.Ns mainGlobals mg) (e : errB K P.main.file x qual fld = true) (ew : errW K x qual st) (ms : mg "super" = none) (top : (P.main.scope.names.lookup ("super" : Str)).isSome = false) :
    ∃ oc od doc pm ctv osl cda, K.lookup (He.fAd K (x, some "__init__")) = some ⟨oc, od, .func ((supF qual st (ccOf K x) cda).fd doc pm ctv), osl⟩ ∧ codeIn K (.ref cda) qual = true ∧ SupC P K mg (He.ga K x) (ccOf K x) cda ∧ findIn K (.ref (He.ga K x)) fld = some none ∧
      findIn K (.ref (He.ga K x)) "__init__" = some (some (.ref (He.fAd K (x, some "__init__")))) ∧ typeIn K (.ref (He.fAd K (x, some "__init__"))) = some (.type "function") ∧ mg x = some (.ref (He.ga K x)) := by
  unfold errB at e
  obtain ⟨e1, e⟩ := Bool.and_eq_true_iff.mp e
  obtain ⟨e2, e⟩ := Bool.and_eq_true_iff.mp e
  obtain ⟨e3, e⟩ := Bool.and_eq_true_iff.mp e
  obtain ⟨e4, e⟩ := Bool.and_eq_true_iff.mp e
  obtain ⟨e5, e⟩ := Bool.and_eq_true_iff.mp e
  obtain ⟨e6, e⟩ := Bool.and_eq_true_iff.mp e
  obtain ⟨e7, e⟩ := Bool.and_eq_true_iff.mp e
  obtain ⟨e8, e⟩ := Bool.and_eq_true_iff.mp e
  obtain ⟨e9, e⟩ := Bool.and_eq_true_iff.mp e
  obtain ⟨e10, e⟩ := Bool.and_eq_true_iff.mp e
  obtain ⟨e11, e⟩ := Bool.and_eq_true_iff.mp e
  obtain ⟨e12, e⟩ := Bool.and_eq_true_iff.mp e
  obtain ⟨e13, e⟩ := Bool.and_eq_true_iff.mp e
  obtain ⟨e14, e⟩ := Bool.and_eq_true_iff.mp e
  obtain ⟨e15, e16⟩ := Bool.and_eq_true_iff.mp e
  obtain ⟨oc, od, doc, pm, ctv, osl, cda, h1, h2, h3⟩ := codeB_ok rfl e7 ew
  have T : OexC K (He.ga K x) := ⟨oexcB_ok e1, He.eqO_ok e2, of_decide_eq_true e3, of_decide_eq_true e4, e5⟩
  exact ⟨oc, od, doc, pm, ctv, osl, cda, h1, h2, ⟨T, cellB_ok e6, h3, Option.isSome_iff_exists.mp e8, of_decide_eq_true e9, He.eqO_ok e10, of_decide_eq_true e11, He.eqO_ok e12, ms, top⟩, He.eqO_ok e15, He.eqO_ok e13, of_decide_eq_true e14, mg_of X G (He.eqO_ok e16)⟩
end
/-! ### errors that are looked at -/
def excCB (K : Frag) (D : Addr) : Bool :=
  He.eqO (findIn K (.ref D) "__getattribute__") (some (some (.builtin "BaseException.__getattribute__"))) && (He.eqO (findIn K (.ref D) "__getattr__") (some none) && (isSomeTrue (subIn K (.ref D) (.type "BaseException")) && (hasDictIn K D &&
  (He.eqO (findIn K (.ref D) "__class__") (some (some (.builtin "object.__class__"))) && (He.eqO (specialIn K (.builtin "object.__class__") "__get__") (some (some (.builtin "getset_descriptor.__get__"))) && (isSomeTrue (takesIn K (.builtin "object.__class__")) && isSomeTrue (mroIn K D (.type "object"))))))))
theorem excCB_ok {D : Addr} (h : excCB K D = true) : ExcC K D := by
  unfold excCB at h
  obtain ⟨e1, h⟩ := Bool.and_eq_true_iff.mp h
  obtain ⟨e2, h⟩ := Bool.and_eq_true_iff.mp h
  obtain ⟨e3, h⟩ := Bool.and_eq_true_iff.mp h
  obtain ⟨e4, h⟩ := Bool.and_eq_true_iff.mp h
  obtain ⟨e5, h⟩ := Bool.and_eq_true_iff.mp h
  obtain ⟨e6, h⟩ := Bool.and_eq_true_iff.mp h
  obtain ⟨e7, e8⟩ := Bool.and_eq_true_iff.mp h
  exact ⟨He.eqO_ok e1, He.eqO_ok e2, of_decide_eq_true e3, e4, He.eqO_ok e5, He.eqO_ok e6, of_decide_eq_true e7, of_decide_eq_true e8⟩
/-- the first default of a def -/
def dfl0 (K : Frag) (p : Str × Option Str) : Addr := match K.lookup (He.fAd K p) with
  | some ⟨_, _, .func fd, _⟩ => (match fd.defaults with
    | .ref T => (match K.lookup T with
      | some ⟨_, _, .seq its _, _⟩ => (match its.toList with
        | .ref a :: _ => a
        | _ => 0)
      | _ => 0)
    | _ => 0)
  | _ => 0
end
end Few
set_option maxHeartbeats 4000000
namespace Few
open PySem PySem.Spec PyProof.Rows L2
def d_members : He.DefD := ⟨("members", none), "members", "members", defArgs s_members, defBody s_members, defScope s_members, [], []⟩
def d_check_parts : He.DefD := ⟨("check_parts", none), "check_parts", "check_parts", defArgs s_check_parts, defBody s_check_parts, defScope s_check_parts, [], []⟩
def d_closed_masks : He.DefD := ⟨("closed_masks", none), "closed_masks", "closed_masks", defArgs s_closed_masks, defBody s_closed_masks, defScope s_closed_masks, [], []⟩
def d_turned_masks : He.DefD := ⟨("turned_masks", none), "turned_masks", "turned_masks", defArgs s_turned_masks, defBody s_turned_masks, defScope s_turned_masks, [], []⟩
def d_Web_init : He.DefD := ⟨("Web", some "__init__"), "__init__", "Web.__init__", defArgs s_Web_init, defBody s_Web_init, defScope s_Web_init, [.adr fun K => dfl0 K ("Web", some "__init__")], []⟩
def d_Web_check_deed : He.DefD := ⟨("Web", some "check_deed"), "check_deed", "Web.check_deed", defArgs s_Web_check_deed, defBody s_Web_check_deed, defScope s_Web_check_deed, [], []⟩
def d_Web_mask_before : He.DefD := ⟨("Web", some "mask_before"), "mask_before", "Web.mask_before", defArgs s_Web_mask_before, defBody s_Web_mask_before, defScope s_Web_mask_before, [], []⟩
def d_Web_pairs : He.DefD := ⟨("Web", some "pairs"), "pairs", "Web.pairs", defArgs s_Web_pairs, defBody s_Web_pairs, defScope s_Web_pairs, [], []⟩
def d_is_free : He.DefD := ⟨("is_free", none), "is_free", "is_free", defArgs s_is_free, defBody s_is_free, defScope s_is_free, [], []⟩
def d_first_free : He.DefD := ⟨("first_free", none), "first_free", "first_free", defArgs s_first_free, defBody s_first_free, defScope s_first_free, [], []⟩
def d_greedy_line : He.DefD := ⟨("greedy_line", none), "greedy_line", "greedy_line", defArgs s_greedy_line, defBody s_greedy_line, defScope s_greedy_line, [], []⟩
def d_least_line : He.DefD := ⟨("least_line", none), "least_line", "least_line", defArgs s_least_line, defBody s_least_line, defScope s_least_line, [], []⟩
def d_check_turn_pairs : He.DefD := ⟨("check_turn_pairs", none), "check_turn_pairs", "check_turn_pairs", defArgs s_check_turn_pairs, defBody s_check_turn_pairs, defScope s_check_turn_pairs, [], []⟩
def d_turned_at_once : He.DefD := ⟨("turned_at_once", none), "turned_at_once", "turned_at_once", defArgs s_turned_at_once, defBody s_turned_at_once, defScope s_turned_at_once, [], []⟩
def d_store : He.DefD := ⟨("_law_store", none), "_law_store", "_law_store", defArgs s_store, defBody s_store, defScope s_store, [], []⟩
def d_take : He.DefD := ⟨("_law_take", none), "_law_take", "_law_take", defArgs s_take, defBody s_take, defScope s_take, [], []⟩
def d_pick : He.DefD := ⟨("_law_pick", none), "_law_pick", "_law_pick", defArgs s_pick, defBody s_pick, defScope s_pick, [], []⟩
def d_mixed : He.DefD := ⟨("_law_mixed", none), "_law_mixed", "_law_mixed", defArgs s_mixed, defBody s_mixed, defScope s_mixed, [], []⟩
def d_closure : He.DefD := ⟨("_law_closure", none), "_law_closure", "_law_closure", defArgs s_closure, defBody s_closure, defScope s_closure, [], []⟩
def d_ring : He.DefD := ⟨("_law_ring", none), "_law_ring", "_law_ring", defArgs s_ring, defBody s_ring, defScope s_ring, [], []⟩
def d_beside : He.DefD := ⟨("_law_beside", none), "_law_beside", "_law_beside", defArgs s_beside, defBody s_beside, defScope s_beside, [], []⟩
def d_ahead_pairs : He.DefD := ⟨("_law_ahead_pairs", none), "_law_ahead_pairs", "_law_ahead_pairs", defArgs s_ahead_pairs, defBody s_ahead_pairs, defScope s_ahead_pairs, [], []⟩
def d_free : He.DefD := ⟨("_law_free", none), "_law_free", "_law_free", defArgs s_free, defBody s_free, defScope s_free, [], []⟩
def d_line : He.DefD := ⟨("_law_line", none), "_law_line", "_law_line", defArgs s_line, defBody s_line, defScope s_line, [], []⟩
def d_lines : He.DefD := ⟨("_law_lines", none), "_law_lines", "_law_lines", defArgs s_lines, defBody s_lines, defScope s_lines, [], []⟩
def d_joined : He.DefD := ⟨("_law_joined", none), "_law_joined", "_law_joined", defArgs s_joined, defBody s_joined, defScope s_joined, [], []⟩
def d_line_pairs : He.DefD := ⟨("_law_line_pairs", none), "_law_line_pairs", "_law_line_pairs", defArgs s_line_pairs, defBody s_line_pairs, defScope s_line_pairs, [], []⟩
def d_pairs_fault : He.DefD := ⟨("_law_pairs_fault", none), "_law_pairs_fault", "_law_pairs_fault", defArgs s_pairs_fault, defBody s_pairs_fault, defScope s_pairs_fault, [], []⟩
def d_like : He.DefD := ⟨("_law_like", none), "_law_like", "_law_like", defArgs s_like, defBody s_like, defScope s_like, [], []⟩
def d_small_web : He.DefD := ⟨("_law_small_web", none), "_law_small_web", "_law_small_web", defArgs s_small_web, defBody s_small_web, defScope s_small_web, [], []⟩
def d_turned_pairs : He.DefD := ⟨("_law_turned_pairs", none), "_law_turned_pairs", "_law_turned_pairs", defArgs s_turned_pairs, defBody s_turned_pairs, defScope s_turned_pairs, [], []⟩
def d_due : He.DefD := ⟨("_law_due", none), "_law_due", "_law_due", defArgs s_due, defBody s_due, defScope s_due, [], []⟩
def d_first_line : He.DefD := ⟨("_law_first_line", none), "_law_first_line", "_law_first_line", defArgs s_first_line, defBody s_first_line, defScope s_first_line, [], []⟩
def d_asked_right : He.DefD := ⟨("_law_asked_right", none), "_law_asked_right", "_law_asked_right", defArgs s_asked_right, defBody s_asked_right, defScope s_asked_right, [], []⟩
def d_law : He.DefD := ⟨("law", none), "law", "law", defArgs s_law, defBody s_law, defScope s_law, [], []⟩
def fnL : List He.DefD := [d_members, d_check_parts, d_closed_masks, d_turned_masks, d_Web_init, d_Web_check_deed, d_Web_mask_before, d_Web_pairs, d_is_free, d_first_free, d_greedy_line, d_least_line, d_check_turn_pairs, d_turned_at_once, d_store, d_take, d_pick, d_mixed, d_closure, d_ring, d_beside, d_ahead_pairs, d_free, d_line, d_lines, d_joined, d_line_pairs, d_pairs_fault, d_like, d_small_web, d_turned_pairs, d_due, d_first_line, d_asked_right, d_law]
def faL : List He.Fa := [.free "len",
  .free "max",
  .free "min",
  .free "abs",
  .free "int",
  .free "list",
  .free "tuple",
  .free "bool",
  .free "str",
  .free "range",
  .free "sorted",
  .free "all",
  .free "isinstance",
  .free "enumerate",
  .free "super",
  .glo "members",
  .glo "check_parts",
  .glo "closed_masks",
  .glo "turned_masks",
  .meth "Web" "check_deed",
  .meth "Web" "mask_before",
  .meth "Web" "pairs",
  .glo "is_free",
  .glo "first_free",
  .glo "greedy_line",
  .glo "least_line",
  .glo "check_turn_pairs",
  .glo "turned_at_once",
  .glo "_law_store",
  .glo "_law_take",
  .glo "_law_pick",
  .glo "_law_mixed",
  .glo "_law_closure",
  .glo "_law_ring",
  .glo "_law_beside",
  .glo "_law_ahead_pairs",
  .glo "_law_free",
  .glo "_law_line",
  .glo "_law_lines",
  .glo "_law_joined",
  .glo "_law_line_pairs",
  .glo "_law_pairs_fault",
  .glo "_law_like",
  .glo "_law_small_web",
  .glo "_law_turned_pairs",
  .glo "_law_due",
  .glo "_law_first_line",
  .glo "_law_asked_right",
  .glo "law",
  .glo "Web",
  .cls "Web",
  .mkr "Web",
  .noat "Web" "size",
  .noat "Web" "masks_ahead",
  .noat "Web" "masks_behind",
  .noat "Web" "pair_rows",
  .glo "WatchError",
  .glo "NotAhead",
  .glo "NotBeside",
  .glo "TooMany",
  .exm "BadDeed" "BadDeed" true,
  .exm "Ring" "Ring" true]
section
variable {P : Program} {w : World} {K : PySem.W.Frag} {h : Heap} {mg : Str → Option Value}
theorem facts {f : Addr} (X : K.In h) (G : h.Ns mainGlobals mg) (hfa : mg ("law" : Str) = some (.ref f)) (c : He.SaysD faL fnL K) (top : (P.main.scope.names.lookup ("super" : Str)).isSome = false)
    (e_BadDeed : errB K P.main.file "BadDeed" "BadDeed.__init__" "bad_deed" = true) (w_BadDeed : errW K "BadDeed" "BadDeed.__init__" s_BadDeed)
    (e_Ring : errB K P.main.file "Ring" "Ring.__init__" "ring_deed" = true) (w_Ring : errW K "Ring" "Ring.__init__" s_Ring)
    (e_ex : excCB K (He.ga K "BadDeed") = true)
    (e_xf : xfB K (He.ga K "BadDeed") = true)
    (e_no : PySem.W.kitAny K (.ref (He.ga K "BadDeed")) [.ref (He.ga K "NotAhead"), .ref (He.ga K "NotBeside"), .ref (He.ga K "TooMany")] = some false)
    (e_yes : PySem.W.kitOne K (.ref (He.ga K "BadDeed")) (.ref (He.ga K "WatchError")) = some true)
    : ∃ fd : FuncData, (∀ (s : Shared) (v : Value), BindsTo s fd ⟨[v], []⟩ [("script", v)]) ∧ ∀ base : Heap, K.In base → base.Ns mainGlobals mg → FnOk P w K mg base CX0 10 f fd ["script"] (sp_law K) := by
  have T : Blt mg := ⟨He.free_ok X G (c.fact 0 rfl), He.free_ok X G (c.fact 1 rfl), He.free_ok X G (c.fact 2 rfl), He.free_ok X G (c.fact 3 rfl), He.free_ok X G (c.fact 4 rfl), He.free_ok X G (c.fact 5 rfl), He.free_ok X G (c.fact 6 rfl), He.free_ok X G (c.fact 7 rfl), He.free_ok X G (c.fact 8 rfl), He.free_ok X G (c.fact 9 rfl), He.free_ok X G (c.fact 10 rfl), He.free_ok X G (c.fact 11 rfl), He.free_ok X G (c.fact 12 rfl), He.free_ok X G (c.fact 13 rfl)⟩
  have msup := He.free_ok X G (c.fact 14 (f := .free "super") rfl)
  obtain ⟨fd_members, D_members⟩ := c.def_ 0 (d := d_members) rfl
  have F_members : Fun K "members" "members" s_members _ fd_members := fun_of D_members
  have b_members : Binds K fd_members ["mask"] [] := FunD.bindsN D_members fun _ _ _ _ _ _ us hl => match us, hl with | [_], _ => rfl
  have C_members : Cal K mg "members" (He.ga K "members") fd_members ["mask"] := ⟨He.glo_ok X G (c.fact 15 (f := .glo "members") rfl), D_members.kp, b_members⟩
  obtain ⟨fd_check_parts, D_check_parts⟩ := c.def_ 1 (d := d_check_parts) rfl
  have F_check_parts : Fun K "check_parts" "check_parts" s_check_parts _ fd_check_parts := fun_of D_check_parts
  have b_check_parts : Binds K fd_check_parts ["size", "pairs"] [] := FunD.bindsN D_check_parts fun _ _ _ _ _ _ us hl => match us, hl with | [_, _], _ => rfl
  have C_check_parts : Cal K mg "check_parts" (He.ga K "check_parts") fd_check_parts ["size", "pairs"] := ⟨He.glo_ok X G (c.fact 16 (f := .glo "check_parts") rfl), D_check_parts.kp, b_check_parts⟩
  obtain ⟨fd_closed_masks, D_closed_masks⟩ := c.def_ 2 (d := d_closed_masks) rfl
  have F_closed_masks : Fun K "closed_masks" "closed_masks" s_closed_masks _ fd_closed_masks := fun_of D_closed_masks
  have b_closed_masks : Binds K fd_closed_masks ["size", "pairs"] [] := FunD.bindsN D_closed_masks fun _ _ _ _ _ _ us hl => match us, hl with | [_, _], _ => rfl
  have C_closed_masks : Cal K mg "closed_masks" (He.ga K "closed_masks") fd_closed_masks ["size", "pairs"] := ⟨He.glo_ok X G (c.fact 17 (f := .glo "closed_masks") rfl), D_closed_masks.kp, b_closed_masks⟩
  obtain ⟨fd_turned_masks, D_turned_masks⟩ := c.def_ 3 (d := d_turned_masks) rfl
  have F_turned_masks : Fun K "turned_masks" "turned_masks" s_turned_masks _ fd_turned_masks := fun_of D_turned_masks
  have b_turned_masks : Binds K fd_turned_masks ["masks"] [] := FunD.bindsN D_turned_masks fun _ _ _ _ _ _ us hl => match us, hl with | [_], _ => rfl
  have C_turned_masks : Cal K mg "turned_masks" (He.ga K "turned_masks") fd_turned_masks ["masks"] := ⟨He.glo_ok X G (c.fact 18 (f := .glo "turned_masks") rfl), D_turned_masks.kp, b_turned_masks⟩
  obtain ⟨fd_Web_init, D_Web_init⟩ := c.def_ 4 (d := d_Web_init) rfl
  have F_Web_init : FunD K "__init__" "Web.__init__" (defArgs s_Web_init) (defBody s_Web_init) (defScope s_Web_init) (d_Web_init.dvs K) [] _ fd_Web_init := D_Web_init
  obtain ⟨ds_, v_, b_Web⟩ := FunD.binds1 F_Web_init (ps := ["self", "size", "pairs"]) 3 1 (by intro z; cases z) rfl fun T kV doc pm an cdv ct us its hl hi => match us, its, hl, hi with | [_, _, _], [_], _, _ => ⟨_, rfl, rfl⟩
  have e_ : ds_ = [] := by
    cases v_ with
    | nil => rfl
  subst e_
  obtain ⟨fd_Web_check_deed, D_Web_check_deed⟩ := c.def_ 5 (d := d_Web_check_deed) rfl
  have F_Web_check_deed : Fun K "check_deed" "Web.check_deed" s_Web_check_deed _ fd_Web_check_deed := fun_of D_Web_check_deed
  have b_Web_check_deed : Binds K fd_Web_check_deed ["self", "deed"] [] := FunD.bindsN D_Web_check_deed fun _ _ _ _ _ _ us hl => match us, hl with | [_, _], _ => rfl
  have C_Web_check_deed : CalM K (He.ga K "Web") "check_deed" (He.ma K (He.ga K "Web") "check_deed") fd_Web_check_deed ["self", "deed"] := ⟨He.meth_ok (c.fact 19 (f := .meth "Web" "check_deed") rfl), b_Web_check_deed⟩
  obtain ⟨fd_Web_mask_before, D_Web_mask_before⟩ := c.def_ 6 (d := d_Web_mask_before) rfl
  have F_Web_mask_before : Fun K "mask_before" "Web.mask_before" s_Web_mask_before _ fd_Web_mask_before := fun_of D_Web_mask_before
  have b_Web_mask_before : Binds K fd_Web_mask_before ["self", "deed"] [] := FunD.bindsN D_Web_mask_before fun _ _ _ _ _ _ us hl => match us, hl with | [_, _], _ => rfl
  have C_Web_mask_before : CalM K (He.ga K "Web") "mask_before" (He.ma K (He.ga K "Web") "mask_before") fd_Web_mask_before ["self", "deed"] := ⟨He.meth_ok (c.fact 20 (f := .meth "Web" "mask_before") rfl), b_Web_mask_before⟩
  obtain ⟨fd_Web_pairs, D_Web_pairs⟩ := c.def_ 7 (d := d_Web_pairs) rfl
  have F_Web_pairs : Fun K "pairs" "Web.pairs" s_Web_pairs _ fd_Web_pairs := fun_of D_Web_pairs
  have b_Web_pairs : Binds K fd_Web_pairs ["self"] [] := FunD.bindsN D_Web_pairs fun _ _ _ _ _ _ us hl => match us, hl with | [_], _ => rfl
  have C_Web_pairs : CalM K (He.ga K "Web") "pairs" (He.ma K (He.ga K "Web") "pairs") fd_Web_pairs ["self"] := ⟨He.meth_ok (c.fact 21 (f := .meth "Web" "pairs") rfl), b_Web_pairs⟩
  obtain ⟨fd_is_free, D_is_free⟩ := c.def_ 8 (d := d_is_free) rfl
  have F_is_free : Fun K "is_free" "is_free" s_is_free _ fd_is_free := fun_of D_is_free
  have b_is_free : Binds K fd_is_free ["web", "deed", "done"] [] := FunD.bindsN D_is_free fun _ _ _ _ _ _ us hl => match us, hl with | [_, _, _], _ => rfl
  have C_is_free : Cal K mg "is_free" (He.ga K "is_free") fd_is_free ["web", "deed", "done"] := ⟨He.glo_ok X G (c.fact 22 (f := .glo "is_free") rfl), D_is_free.kp, b_is_free⟩
  obtain ⟨fd_first_free, D_first_free⟩ := c.def_ 9 (d := d_first_free) rfl
  have F_first_free : Fun K "first_free" "first_free" s_first_free _ fd_first_free := fun_of D_first_free
  have b_first_free : Binds K fd_first_free ["web", "deeds", "done"] [] := FunD.bindsN D_first_free fun _ _ _ _ _ _ us hl => match us, hl with | [_, _, _], _ => rfl
  have C_first_free : Cal K mg "first_free" (He.ga K "first_free") fd_first_free ["web", "deeds", "done"] := ⟨He.glo_ok X G (c.fact 23 (f := .glo "first_free") rfl), D_first_free.kp, b_first_free⟩
  obtain ⟨fd_greedy_line, D_greedy_line⟩ := c.def_ 10 (d := d_greedy_line) rfl
  have F_greedy_line : Fun K "greedy_line" "greedy_line" s_greedy_line _ fd_greedy_line := fun_of D_greedy_line
  have b_greedy_line : Binds K fd_greedy_line ["web", "wished", "done"] [] := FunD.bindsN D_greedy_line fun _ _ _ _ _ _ us hl => match us, hl with | [_, _, _], _ => rfl
  have C_greedy_line : Cal K mg "greedy_line" (He.ga K "greedy_line") fd_greedy_line ["web", "wished", "done"] := ⟨He.glo_ok X G (c.fact 24 (f := .glo "greedy_line") rfl), D_greedy_line.kp, b_greedy_line⟩
  obtain ⟨fd_least_line, D_least_line⟩ := c.def_ 11 (d := d_least_line) rfl
  have F_least_line : Fun K "least_line" "least_line" s_least_line _ fd_least_line := fun_of D_least_line
  have b_least_line : Binds K fd_least_line ["web"] [] := FunD.bindsN D_least_line fun _ _ _ _ _ _ us hl => match us, hl with | [_], _ => rfl
  have C_least_line : Cal K mg "least_line" (He.ga K "least_line") fd_least_line ["web"] := ⟨He.glo_ok X G (c.fact 25 (f := .glo "least_line") rfl), D_least_line.kp, b_least_line⟩
  obtain ⟨fd_check_turn_pairs, D_check_turn_pairs⟩ := c.def_ 12 (d := d_check_turn_pairs) rfl
  have F_check_turn_pairs : Fun K "check_turn_pairs" "check_turn_pairs" s_check_turn_pairs _ fd_check_turn_pairs := fun_of D_check_turn_pairs
  have b_check_turn_pairs : Binds K fd_check_turn_pairs ["web", "pairs"] [] := FunD.bindsN D_check_turn_pairs fun _ _ _ _ _ _ us hl => match us, hl with | [_, _], _ => rfl
  have C_check_turn_pairs : Cal K mg "check_turn_pairs" (He.ga K "check_turn_pairs") fd_check_turn_pairs ["web", "pairs"] := ⟨He.glo_ok X G (c.fact 26 (f := .glo "check_turn_pairs") rfl), D_check_turn_pairs.kp, b_check_turn_pairs⟩
  obtain ⟨fd_turned_at_once, D_turned_at_once⟩ := c.def_ 13 (d := d_turned_at_once) rfl
  have F_turned_at_once : Fun K "turned_at_once" "turned_at_once" s_turned_at_once _ fd_turned_at_once := fun_of D_turned_at_once
  have b_turned_at_once : Binds K fd_turned_at_once ["web", "pairs"] [] := FunD.bindsN D_turned_at_once fun _ _ _ _ _ _ us hl => match us, hl with | [_, _], _ => rfl
  have C_turned_at_once : Cal K mg "turned_at_once" (He.ga K "turned_at_once") fd_turned_at_once ["web", "pairs"] := ⟨He.glo_ok X G (c.fact 27 (f := .glo "turned_at_once") rfl), D_turned_at_once.kp, b_turned_at_once⟩
  obtain ⟨fd_store, D_store⟩ := c.def_ 14 (d := d_store) rfl
  have F_store : Fun K "_law_store" "_law_store" s_store _ fd_store := fun_of D_store
  have b_store : Binds K fd_store ["script"] [] := FunD.bindsN D_store fun _ _ _ _ _ _ us hl => match us, hl with | [_], _ => rfl
  have C_store : Cal K mg "_law_store" (He.ga K "_law_store") fd_store ["script"] := ⟨He.glo_ok X G (c.fact 28 (f := .glo "_law_store") rfl), D_store.kp, b_store⟩
  obtain ⟨fd_take, D_take⟩ := c.def_ 15 (d := d_take) rfl
  have F_take : Fun K "_law_take" "_law_take" s_take _ fd_take := fun_of D_take
  have b_take : Binds K fd_take ["store", "many"] [] := FunD.bindsN D_take fun _ _ _ _ _ _ us hl => match us, hl with | [_, _], _ => rfl
  have C_take : Cal K mg "_law_take" (He.ga K "_law_take") fd_take ["store", "many"] := ⟨He.glo_ok X G (c.fact 29 (f := .glo "_law_take") rfl), D_take.kp, b_take⟩
  obtain ⟨fd_pick, D_pick⟩ := c.def_ 16 (d := d_pick) rfl
  have F_pick : Fun K "_law_pick" "_law_pick" s_pick _ fd_pick := fun_of D_pick
  have b_pick : Binds K fd_pick ["store", "items"] [] := FunD.bindsN D_pick fun _ _ _ _ _ _ us hl => match us, hl with | [_, _], _ => rfl
  have C_pick : Cal K mg "_law_pick" (He.ga K "_law_pick") fd_pick ["store", "items"] := ⟨He.glo_ok X G (c.fact 30 (f := .glo "_law_pick") rfl), D_pick.kp, b_pick⟩
  obtain ⟨fd_mixed, D_mixed⟩ := c.def_ 17 (d := d_mixed) rfl
  have F_mixed : Fun K "_law_mixed" "_law_mixed" s_mixed _ fd_mixed := fun_of D_mixed
  have b_mixed : Binds K fd_mixed ["store", "items"] [] := FunD.bindsN D_mixed fun _ _ _ _ _ _ us hl => match us, hl with | [_, _], _ => rfl
  have C_mixed : Cal K mg "_law_mixed" (He.ga K "_law_mixed") fd_mixed ["store", "items"] := ⟨He.glo_ok X G (c.fact 31 (f := .glo "_law_mixed") rfl), D_mixed.kp, b_mixed⟩
  obtain ⟨fd_closure, D_closure⟩ := c.def_ 18 (d := d_closure) rfl
  have F_closure : Fun K "_law_closure" "_law_closure" s_closure _ fd_closure := fun_of D_closure
  have b_closure : Binds K fd_closure ["size", "pairs"] [] := FunD.bindsN D_closure fun _ _ _ _ _ _ us hl => match us, hl with | [_, _], _ => rfl
  have C_closure : Cal K mg "_law_closure" (He.ga K "_law_closure") fd_closure ["size", "pairs"] := ⟨He.glo_ok X G (c.fact 32 (f := .glo "_law_closure") rfl), D_closure.kp, b_closure⟩
  obtain ⟨fd_ring, D_ring⟩ := c.def_ 19 (d := d_ring) rfl
  have F_ring : Fun K "_law_ring" "_law_ring" s_ring _ fd_ring := fun_of D_ring
  have b_ring : Binds K fd_ring ["rows"] [] := FunD.bindsN D_ring fun _ _ _ _ _ _ us hl => match us, hl with | [_], _ => rfl
  have C_ring : Cal K mg "_law_ring" (He.ga K "_law_ring") fd_ring ["rows"] := ⟨He.glo_ok X G (c.fact 33 (f := .glo "_law_ring") rfl), D_ring.kp, b_ring⟩
  obtain ⟨fd_beside, D_beside⟩ := c.def_ 20 (d := d_beside) rfl
  have F_beside : Fun K "_law_beside" "_law_beside" s_beside _ fd_beside := fun_of D_beside
  have b_beside : Binds K fd_beside ["rows", "a", "b"] [] := FunD.bindsN D_beside fun _ _ _ _ _ _ us hl => match us, hl with | [_, _, _], _ => rfl
  have C_beside : Cal K mg "_law_beside" (He.ga K "_law_beside") fd_beside ["rows", "a", "b"] := ⟨He.glo_ok X G (c.fact 34 (f := .glo "_law_beside") rfl), D_beside.kp, b_beside⟩
  obtain ⟨fd_ahead_pairs, D_ahead_pairs⟩ := c.def_ 21 (d := d_ahead_pairs) rfl
  have F_ahead_pairs : Fun K "_law_ahead_pairs" "_law_ahead_pairs" s_ahead_pairs _ fd_ahead_pairs := fun_of D_ahead_pairs
  have b_ahead_pairs : Binds K fd_ahead_pairs ["rows"] [] := FunD.bindsN D_ahead_pairs fun _ _ _ _ _ _ us hl => match us, hl with | [_], _ => rfl
  have C_ahead_pairs : Cal K mg "_law_ahead_pairs" (He.ga K "_law_ahead_pairs") fd_ahead_pairs ["rows"] := ⟨He.glo_ok X G (c.fact 35 (f := .glo "_law_ahead_pairs") rfl), D_ahead_pairs.kp, b_ahead_pairs⟩
  obtain ⟨fd_free, D_free⟩ := c.def_ 22 (d := d_free) rfl
  have F_free : Fun K "_law_free" "_law_free" s_free _ fd_free := fun_of D_free
  have b_free : Binds K fd_free ["rows", "done"] [] := FunD.bindsN D_free fun _ _ _ _ _ _ us hl => match us, hl with | [_, _], _ => rfl
  have C_free : Cal K mg "_law_free" (He.ga K "_law_free") fd_free ["rows", "done"] := ⟨He.glo_ok X G (c.fact 36 (f := .glo "_law_free") rfl), D_free.kp, b_free⟩
  obtain ⟨fd_line, D_line⟩ := c.def_ 23 (d := d_line) rfl
  have F_line : Fun K "_law_line" "_law_line" s_line _ fd_line := fun_of D_line
  have b_line : Binds K fd_line ["store", "rows"] [] := FunD.bindsN D_line fun _ _ _ _ _ _ us hl => match us, hl with | [_, _], _ => rfl
  have C_line : Cal K mg "_law_line" (He.ga K "_law_line") fd_line ["store", "rows"] := ⟨He.glo_ok X G (c.fact 37 (f := .glo "_law_line") rfl), D_line.kp, b_line⟩
  obtain ⟨fd_lines, D_lines⟩ := c.def_ 24 (d := d_lines) rfl
  have F_lines : Fun K "_law_lines" "_law_lines" s_lines _ fd_lines := fun_of D_lines
  have b_lines : Binds K fd_lines ["rows"] [] := FunD.bindsN D_lines fun _ _ _ _ _ _ us hl => match us, hl with | [_], _ => rfl
  have C_lines : Cal K mg "_law_lines" (He.ga K "_law_lines") fd_lines ["rows"] := ⟨He.glo_ok X G (c.fact 38 (f := .glo "_law_lines") rfl), D_lines.kp, b_lines⟩
  obtain ⟨fd_joined, D_joined⟩ := c.def_ 25 (d := d_joined) rfl
  have F_joined : Fun K "_law_joined" "_law_joined" s_joined _ fd_joined := fun_of D_joined
  have b_joined : Binds K fd_joined ["rows", "one", "two"] [] := FunD.bindsN D_joined fun _ _ _ _ _ _ us hl => match us, hl with | [_, _, _], _ => rfl
  have C_joined : Cal K mg "_law_joined" (He.ga K "_law_joined") fd_joined ["rows", "one", "two"] := ⟨He.glo_ok X G (c.fact 39 (f := .glo "_law_joined") rfl), D_joined.kp, b_joined⟩
  obtain ⟨fd_line_pairs, D_line_pairs⟩ := c.def_ 26 (d := d_line_pairs) rfl
  have F_line_pairs : Fun K "_law_line_pairs" "_law_line_pairs" s_line_pairs _ fd_line_pairs := fun_of D_line_pairs
  have b_line_pairs : Binds K fd_line_pairs ["rows", "line"] [] := FunD.bindsN D_line_pairs fun _ _ _ _ _ _ us hl => match us, hl with | [_, _], _ => rfl
  have C_line_pairs : Cal K mg "_law_line_pairs" (He.ga K "_law_line_pairs") fd_line_pairs ["rows", "line"] := ⟨He.glo_ok X G (c.fact 40 (f := .glo "_law_line_pairs") rfl), D_line_pairs.kp, b_line_pairs⟩
  obtain ⟨fd_pairs_fault, D_pairs_fault⟩ := c.def_ 27 (d := d_pairs_fault) rfl
  have F_pairs_fault : Fun K "_law_pairs_fault" "_law_pairs_fault" s_pairs_fault _ fd_pairs_fault := fun_of D_pairs_fault
  have b_pairs_fault : Binds K fd_pairs_fault ["size", "pairs"] [] := FunD.bindsN D_pairs_fault fun _ _ _ _ _ _ us hl => match us, hl with | [_, _], _ => rfl
  have C_pairs_fault : Cal K mg "_law_pairs_fault" (He.ga K "_law_pairs_fault") fd_pairs_fault ["size", "pairs"] := ⟨He.glo_ok X G (c.fact 41 (f := .glo "_law_pairs_fault") rfl), D_pairs_fault.kp, b_pairs_fault⟩
  obtain ⟨fd_like, D_like⟩ := c.def_ 28 (d := d_like) rfl
  have F_like : Fun K "_law_like" "_law_like" s_like _ fd_like := fun_of D_like
  have b_like : Binds K fd_like ["actual", "expected"] [] := FunD.bindsN D_like fun _ _ _ _ _ _ us hl => match us, hl with | [_, _], _ => rfl
  have C_like : Cal K mg "_law_like" (He.ga K "_law_like") fd_like ["actual", "expected"] := ⟨He.glo_ok X G (c.fact 42 (f := .glo "_law_like") rfl), D_like.kp, b_like⟩
  obtain ⟨fd_small_web, D_small_web⟩ := c.def_ 29 (d := d_small_web) rfl
  have F_small_web : Fun K "_law_small_web" "_law_small_web" s_small_web _ fd_small_web := fun_of D_small_web
  have b_small_web : Binds K fd_small_web ["store", "most"] [] := FunD.bindsN D_small_web fun _ _ _ _ _ _ us hl => match us, hl with | [_, _], _ => rfl
  have C_small_web : Cal K mg "_law_small_web" (He.ga K "_law_small_web") fd_small_web ["store", "most"] := ⟨He.glo_ok X G (c.fact 43 (f := .glo "_law_small_web") rfl), D_small_web.kp, b_small_web⟩
  obtain ⟨fd_turned_pairs, D_turned_pairs⟩ := c.def_ 30 (d := d_turned_pairs) rfl
  have F_turned_pairs : Fun K "_law_turned_pairs" "_law_turned_pairs" s_turned_pairs _ fd_turned_pairs := fun_of D_turned_pairs
  have b_turned_pairs : Binds K fd_turned_pairs ["store", "rows"] [] := FunD.bindsN D_turned_pairs fun _ _ _ _ _ _ us hl => match us, hl with | [_, _], _ => rfl
  have C_turned_pairs : Cal K mg "_law_turned_pairs" (He.ga K "_law_turned_pairs") fd_turned_pairs ["store", "rows"] := ⟨He.glo_ok X G (c.fact 44 (f := .glo "_law_turned_pairs") rfl), D_turned_pairs.kp, b_turned_pairs⟩
  obtain ⟨fd_due, D_due⟩ := c.def_ 31 (d := d_due) rfl
  have F_due : Fun K "_law_due" "_law_due" s_due _ fd_due := fun_of D_due
  have b_due : Binds K fd_due ["rows", "pairs"] [] := FunD.bindsN D_due fun _ _ _ _ _ _ us hl => match us, hl with | [_, _], _ => rfl
  have C_due : Cal K mg "_law_due" (He.ga K "_law_due") fd_due ["rows", "pairs"] := ⟨He.glo_ok X G (c.fact 45 (f := .glo "_law_due") rfl), D_due.kp, b_due⟩
  obtain ⟨fd_first_line, D_first_line⟩ := c.def_ 32 (d := d_first_line) rfl
  have F_first_line : Fun K "_law_first_line" "_law_first_line" s_first_line _ fd_first_line := fun_of D_first_line
  have b_first_line : Binds K fd_first_line ["rows", "pairs"] [] := FunD.bindsN D_first_line fun _ _ _ _ _ _ us hl => match us, hl with | [_, _], _ => rfl
  have C_first_line : Cal K mg "_law_first_line" (He.ga K "_law_first_line") fd_first_line ["rows", "pairs"] := ⟨He.glo_ok X G (c.fact 46 (f := .glo "_law_first_line") rfl), D_first_line.kp, b_first_line⟩
  obtain ⟨fd_asked_right, D_asked_right⟩ := c.def_ 33 (d := d_asked_right) rfl
  have F_asked_right : Fun K "_law_asked_right" "_law_asked_right" s_asked_right _ fd_asked_right := fun_of D_asked_right
  have b_asked_right : Binds K fd_asked_right ["web", "rows", "pairs"] [] := FunD.bindsN D_asked_right fun _ _ _ _ _ _ us hl => match us, hl with | [_, _, _], _ => rfl
  have C_asked_right : Cal K mg "_law_asked_right" (He.ga K "_law_asked_right") fd_asked_right ["web", "rows", "pairs"] := ⟨He.glo_ok X G (c.fact 47 (f := .glo "_law_asked_right") rfl), D_asked_right.kp, b_asked_right⟩
  obtain ⟨fd_law, D_law⟩ := c.def_ 34 (d := d_law) rfl
  have F_law : Fun K "law" "law" s_law _ fd_law := fun_of D_law
  have b_law : Binds K fd_law ["script"] [] := FunD.bindsN D_law fun _ _ _ _ _ _ us hl => match us, hl with | [_], _ => rfl
  have C_law : Cal K mg "law" (He.ga K "law") fd_law ["script"] := ⟨He.glo_ok X G (c.fact 48 (f := .glo "law") rfl), D_law.kp, b_law⟩
  have W : WebT K mg (He.ga K "Web") := ⟨He.cls_ok (c.fact 50 (f := .cls "Web") rfl), He.noat_ok (c.fact 52 (f := .noat "Web" "size") rfl), He.noat_ok (c.fact 53 (f := .noat "Web" "masks_ahead") rfl), He.noat_ok (c.fact 54 (f := .noat "Web" "masks_behind") rfl), He.noat_ok (c.fact 55 (f := .noat "Web" "pair_rows") rfl), He.glo_ok X G (c.fact 49 (f := .glo "Web") rfl)⟩
  have M_Web : Mk K (He.ga K "Web") (He.ma K (He.ga K "Web") "__init__") := He.mkr_ok (c.fact 51 (f := .mkr "Web") rfl)
  have m_RR := He.exm_ok (c.fact 61 (f := .exm "Ring" "Ring" true) rfl)
  have m_BB := He.exm_ok (c.fact 60 (f := .exm "BadDeed" "BadDeed" true) rfl)
  have g_W := He.glo_ok X G (c.fact 56 (f := .glo "WatchError") rfl)
  have g_NA := He.glo_ok X G (c.fact 57 (f := .glo "NotAhead") rfl)
  have g_NB := He.glo_ok X G (c.fact 58 (f := .glo "NotBeside") rfl)
  have g_TM := He.glo_ok X G (c.fact 59 (f := .glo "TooMany") rfl)
  obtain ⟨oc_BadDeed, od_BadDeed, doc_BadDeed, pm_BadDeed, ctv_BadDeed, osl_BadDeed, cda_BadDeed, x1_BadDeed, x2_BadDeed, x3_BadDeed, x4_BadDeed, x5_BadDeed, x6_BadDeed, x7_BadDeed⟩ := err_ok X G e_BadDeed w_BadDeed msup top
  obtain ⟨oc_Ring, od_Ring, doc_Ring, pm_Ring, ctv_Ring, osl_Ring, cda_Ring, x1_Ring, x2_Ring, x3_Ring, x4_Ring, x5_Ring, x6_Ring, x7_Ring⟩ := err_ok X G e_Ring w_Ring msup top
  have e := hfa.symm.trans (He.glo_ok X G (c.fact 48 (f := .glo "law") rfl))
  cases e
  refine ⟨fd_law, fun s v => FunD.bindsA (ps := ["script"]) D_law (fun _ _ _ _ _ _ us hl => match us, hl with | [_], _ => rfl) s [v] rfl, fun base _ _ => ?_⟩
  have R_BadDeed : Err1 P w K mg base "BadDeed" "bad_deed" (He.ga K "BadDeed") (He.fAd K ("BadDeed", some "__init__")) _ := ⟨x3_BadDeed.T, x5_BadDeed, x6_BadDeed, ok_BadDeed x1_BadDeed x2_BadDeed x3_BadDeed x4_BadDeed, (.all fun us hl => match us, hl with | [_, _], _ => rfl), x7_BadDeed⟩
  have R_Ring : Err1 P w K mg base "Ring" "ring_deed" (He.ga K "Ring") (He.fAd K ("Ring", some "__init__")) _ := ⟨x3_Ring.T, x5_Ring, x6_Ring, ok_Ring x1_Ring x2_Ring x3_Ring x4_Ring, (.all fun us hl => match us, hl with | [_, _], _ => rfl), x7_Ring⟩
  have G_members := ok_members (P := P) (w := w) (base := base) F_members T
  have G_check_parts := ok_check_parts (P := P) (w := w) (base := base) F_check_parts T
  have G_closed_masks := ok_closed_masks (P := P) (w := w) (base := base) F_closed_masks T
  have G_turned_masks := ok_turned_masks (P := P) (w := w) (base := base) F_turned_masks T C_members G_members
  have G_Web_init := ok_web (P := P) (w := w) (base := base) F_Web_init T W R_Ring C_check_parts G_check_parts C_closed_masks G_closed_masks C_turned_masks G_turned_masks C_members G_members
  have G_Web_check_deed := ok_check_deed (P := P) (w := w) (base := base) F_Web_check_deed T W
  have G_Web_mask_before := ok_mask_before (P := P) (w := w) (base := base) F_Web_mask_before T W C_Web_check_deed G_Web_check_deed
  have G_Web_pairs := ok_pairs (P := P) (w := w) (base := base) F_Web_pairs T W
  have G_is_free := ok_is_free (P := P) (w := w) (base := base) F_is_free T W C_Web_mask_before G_Web_mask_before
  have G_first_free := ok_first_free (P := P) (w := w) (base := base) F_first_free T C_is_free G_is_free
  have G_greedy_line := ok_greedy_line (P := P) (w := w) (base := base) F_greedy_line T C_first_free G_first_free
  have G_least_line := ok_least_line (P := P) (w := w) (base := base) F_least_line T W C_greedy_line G_greedy_line
  have G_check_turn_pairs := ok_check_turn_pairs (P := P) (w := w) (base := base) F_check_turn_pairs T W R_BadDeed
  have G_turned_at_once := ok_turned_at_once (P := P) (w := w) (base := base) F_turned_at_once T W C_check_turn_pairs G_check_turn_pairs C_least_line G_least_line M_Web b_Web G_Web_init C_Web_pairs G_Web_pairs x7_Ring m_RR
  have G_store := ok_store (P := P) (w := w) (base := base) F_store T
  have G_take := ok_take (P := P) (w := w) (base := base) F_take T
  have G_pick := ok_pick (P := P) (w := w) (base := base) F_pick T C_take G_take
  have G_mixed := ok_mixed (P := P) (w := w) (base := base) F_mixed T C_take G_take
  have G_closure := ok_closure (P := P) (w := w) (base := base) F_closure T
  have G_ring := ok_ring (P := P) (w := w) (base := base) F_ring T
  have G_beside := ok_beside (P := P) (w := w) (base := base) F_beside T
  have G_ahead_pairs := ok_ahead_pairs (P := P) (w := w) (base := base) F_ahead_pairs T
  have G_free := ok_free (P := P) (w := w) (base := base) F_free T
  have G_line := ok_line (P := P) (w := w) (base := base) F_line T C_take G_take C_free G_free
  have G_lines := ok_lines (P := P) (w := w) (base := base) F_lines T C_free G_free
  have G_joined := ok_joined (P := P) (w := w) (base := base) F_joined T
  have G_line_pairs := ok_line_pairs (P := P) (w := w) (base := base) F_line_pairs T C_beside G_beside
  have G_pairs_fault := ok_pairs_fault (P := P) (w := w) (base := base) F_pairs_fault T
  have G_like0 := ok_like0 (P := P) (w := w) (base := base) F_like T
  have Q_like := ok_likeQ (P := P) (w := w) (base := base) F_like T
  have G_like1 := ok_likeS F_like T C_like G_like0
  have G_like := ok_likeS F_like T C_like G_like1
  have G_small_web := ok_small_web (P := P) (w := w) (base := base) F_small_web T C_mixed G_mixed C_take G_take C_closure G_closure
  have G_turned_pairs := ok_turned_pairs (P := P) (w := w) (base := base) F_turned_pairs T C_line G_line C_take G_take C_mixed G_mixed C_pick G_pick C_line_pairs G_line_pairs C_joined G_joined
  have G_due := ok_due (P := P) (w := w) (base := base) F_due T C_closure G_closure C_ring G_ring C_ahead_pairs G_ahead_pairs C_free G_free
  have G_first_line := ok_first_line (P := P) (w := w) (base := base) F_first_line T C_lines G_lines
  have A : AskT K mg (He.ga K "BadDeed") (He.ga K "WatchError") (He.ga K "NotAhead") (He.ga K "NotBeside") (He.ga K "TooMany") := ⟨x7_BadDeed, g_W, g_NA, g_NB, g_TM, m_BB, excCB_ok e_ex, e_no, e_yes, xfB_ok e_xf, x4_BadDeed⟩
  have G_asked_right := ok_asked_right (P := P) (w := w) (base := base) F_asked_right T C_pairs_fault G_pairs_fault C_due G_due C_turned_at_once G_turned_at_once C_like G_like Q_like C_first_line G_first_line A
  have G_law := ok_law (P := P) (w := w) (base := base) F_law T W C_store G_store C_small_web G_small_web C_turned_pairs G_turned_pairs C_take G_take C_pick G_pick M_Web b_Web G_Web_init C_ahead_pairs G_ahead_pairs C_asked_right G_asked_right
  exact G_law
end
theorem walk {q : Program} {loose : List Str} {XP : (Str → Option Value) → Heap → Prop} {YP : World → Heap → Prop} {d : DefRec} {K : Params → PySem.W.Frag} (hdf : d.params.defaults = [])
    (hY : ∀ (w : World) (h : Heap), YP w h → (K w.params).In h)
    (F : ∀ (w : World) (mg : Str → Option Value) (fa : Addr) (h : Heap), (K w.params).In h → h.Ns mainGlobals mg → mg d.name = some (.ref fa) →
      ∃ fd : FuncData, (∀ (s : Shared) (u : Value), BindsTo s fd ⟨[u], []⟩ [("script", u)]) ∧ ∀ base : Heap, (K w.params).In base → base.Ns mainGlobals mg → FnOk PySem.Challenge.rw_fewreaders_k73_first_line_that_turns_all.prog w (K w.params) mg base CX0 10 fa fd ["script"] (sp_law (K w.params))) :
    PySem.W.WalkO q loose XP YP (PySem.W.OpenLaw.row PySem.Challenge.rw_fewreaders_k73_first_line_that_turns_all).toRowW d [] (fun f vs => PySem.call f vs) :=
  L2.walk_of (l := PySem.Challenge.rw_fewreaders_k73_first_line_that_turns_all) (n := 63) (k := 10) (x := "script") (CX := fun _ => CX0) (sp := fun w => sp_law (K w.params)) rfl (by decide) hdf ⟨rfl, by decide, by decide⟩ hY F (fun _ _ a ns hl _ hS => ⟨a, ns, rfl, hS, hl, fun _ => rfl⟩) fun _ _ _ _ _ z => z
end Few
open PySem PySem.W PyProof.Rows
set_option maxHeartbeats 0 in
theorem PySem.Challenge.cw_fewreaders_k73_first_line_that_turns_all_holds : PySem.Challenge.rw_fewreaders_k73_first_line_that_turns_all.Holds := by
  w_on; o_law; k_head; (case hw => w_witness2)
  k_fill
  refine Few.walk rfl (fun w h Y => PySem.W.kIn_of Y) ?F
  case F =>
    intro w mg fa h KX G hmg
    refine Few.facts KX G hmg ?c ?top ?e1 ?w1 ?e2 ?w2 ?m1 ?m2 ?m3 ?m4
    case c => exact (show He.obsD _ _ _ = He.valD _ by kernel_rfl)
    case top => kernel_rfl
    case e1 => kernel_rfl
    case w1 => exact (show He.fnW _ _ = Few.fnWV _ _ _ by kernel_rfl)
    case e2 => kernel_rfl
    case w2 => exact (show He.fnW _ _ = Few.fnWV _ _ _ by kernel_rfl)
    case m1 => kernel_rfl
    case m2 => kernel_rfl
    case m3 => kernel_rfl
    case m4 => kernel_rfl
#print axioms PySem.Challenge.cw_fewreaders_k73_first_line_that_turns_all_holds
