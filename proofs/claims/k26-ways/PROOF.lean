import PyProof.Rows.All
import Wide.All
import OpenK.AllK
import Wide.FinOn
import HandS.ForMost
import HandS.Walk
import HandS.FStr
import HandS.Style
import HandS.IsInst
import HandS.Steps
import HandS.Star
import HandS.Defaults
import HandS.CallLocal
import HandS.SortRule
import HandS.Conv
import PySem.Challenge.RW_cabmeters_k26_ways_of_many_ticks
set_option Elab.async false
set_option maxRecDepth 100000
set_option maxHeartbeats 4000000
set_option linter.unusedVariables false
namespace CM
open PySem PySem.Spec PyProof.Rows L2
section
variable {X : Cx}
theorem pe_gstr {x z : Str} {pos : Pos} (h : ∃ t, X.mg x = some (.str z t)) (hg : Gl X x := by rfl) (hd : (x == ("__debug__" : Str)) = false := by decide) : PE X (.Name x pos) (tC (.str z)) := by
  obtain ⟨t, h⟩ := h
  exact pe_glob hg h ⟨t, rfl⟩ hd
theorem pe_gint {x : Str} {z : Int} {pos : Pos} (h : ∃ t, X.mg x = some (.int z t)) (hg : Gl X x := by rfl) (hd : (x == ("__debug__" : Str)) = false := by decide) : PE X (.Name x pos) (tC (.int z)) := by
  obtain ⟨t, h⟩ := h
  exact pe_glob hg h ⟨t, rfl⟩ hd
theorem pe_ty {x : Str} {T : String} {pos : Pos} (h : X.mg x = none) (hv : bootBuiltins x = some (.type T) := by decide +kernel) (hg : Gl X x := by rfl) (hn : x ≠ "__name__" := by decide) (hd : (x == ("__debug__" : Str)) = false := by decide) : PE X (.Name x pos) (tC (.ty T)) :=
  pe_bltn hg h hv rfl hn hd

/-! ### texts as lists of signs -/
abbrev tl (x : Str) : List Nat := x.cps.toList
abbrev sL (l : List Nat) : Str := ⟨l.toArray⟩
theorem sL_tl (z : Str) : sL (tl z) = z := TL.mk_tl z
theorem tl_sL (l : List Nat) : tl (sL l) = l := rfl
theorem len_sL (l : List Nat) : (sL l).length = l.length := by simp [Str.length]
theorem len_tl (z : Str) : z.length = (tl z).length := TL.len_tl z
theorem sL_inj {l m : List Nat} (h : sL l = sL m) : l = m := by
  have e := congrArg tl h
  exact e
theorem sL_app (l m : List Nat) : sL l ++ sL m = sL (l ++ m) := TL.ext_tl (by rw [TL.tl_append])

/-- text * number -/
def repL (l : List Nat) (n : Nat) : List Nat := (List.replicate n l).flatten
theorem foldl_app (z : List Nat) : ∀ (n : Nat) (a : Array Nat), ((List.replicate n z.toArray).foldl (· ++ ·) a).toList = a.toList ++ repL z n
  | 0, a => by simp [repL]
  | n + 1, a => by
    rw [List.replicate_succ, List.foldl_cons, foldl_app z n, Array.toList_append]
    simp [repL, List.replicate_succ]
theorem repL_one (z : List Nat) : repL z 1 = z := by simp [repL]
theorem repL_nil (n : Nat) : repL [] n = [] := by
  induction n with
  | zero => rfl
  | succ n ih => simp [repL, List.replicate_succ]
theorem mul_eq (z : List Nat) (n : Nat) : Txt.mul (sL z) (n : Int) = sL (repL z n) := by
  unfold Txt.mul
  by_cases h : (n : Int) < 1
  · have e : n = 0 := by omega
    subst e
    rw [if_pos h]
    rfl
  · rw [if_neg h]
    by_cases h2 : (((n : Int) == 1) || (sL z).length == 0) = true
    · rw [if_pos h2]
      rcases Bool.or_eq_true _ _ ▸ h2 with h3 | h3
      · have e : n = 1 := by
          have := eq_of_beq h3
          omega
        subst e
        rw [repL_one]
      · have e : z = [] := by
          have := eq_of_beq h3
          rw [len_sL] at this
          exact List.length_eq_zero_iff.mp this
        subst e
        rw [repL_nil]
    · rw [if_neg h2]
      refine TL.ext_tl ?_
      show ((List.replicate ((n : Int)).toNat z.toArray).foldl (· ++ ·) #[]).toList = repL z n
      rw [foldl_app, Int.toNat_natCast]
      rfl
def rMulS : R2 := fun x y H Q => ∃ (l : List Nat) (n : Nat), x = .str (sL l) ∧ y = .int (n : Int) ∧ l.length * n ≤ 16777216 ∧ n ≤ 16777216 ∧ Q (.str (sL (repL l n))) H
theorem mulOk {l : List Nat} {n : Nat} (h : l.length * n ≤ 16777216) (h2 : n ≤ 16777216) : MulOk (sL l) (n : Int) := by
  refine ⟨?_, fun h0 _ => ?_, fun h0 _ => ?_⟩
  · rw [decide_eq_false (by omega), decide_eq_false (by omega)]
    rfl
  · rw [len_sL]
    intro hgt
    have h3 : (l.length : Int) * (n : Int) ≤ 16777216 := by
      rw [← Int.natCast_mul]
      exact Int.ofNat_le.mpr h
    have h4 : ((2 : Int) ^ 63 - 1) / n * n > (2 : Int) ^ 63 - 1 - n := by
      have a := Int.emod_add_mul_ediv ((2 : Int) ^ 63 - 1) (n : Int)
      rw [Int.mul_comm] at a
      have b := Int.emod_lt_of_pos ((2 : Int) ^ 63 - 1) (show (0 : Int) < n by omega)
      omega
    have h5 : (l.length : Int) * n ≥ ((2 : Int) ^ 63 - 1) / n * n := Int.mul_le_mul_of_nonneg_right (by omega) (by omega)
    omega
  · rw [len_sL, Int.toNat_natCast]
    exact decide_eq_false (by have : sizeLine ≥ 16777216 := by decide
                              omega)
theorem op_mulS : OpR X (binaryOp .Mult) rMulS := by
  intro pins s σ H x y v u Q I rx ry h
  obtain ⟨l, n, rfl, rfl, hz, h2, q⟩ := h
  obtain ⟨t, rfl⟩ := rx
  obtain ⟨t', rfl⟩ := ry
  rw [← mul_eq] at q
  exact SB.mul (mulOk hz h2) (fun t' k => ⟨.str _, H, I.tok _, ⟨_, rfl⟩, q⟩)
end

/-! ### defs as they stand behind the top -/
structure Df (K : PySem.W.Frag) (mg : Str → Option Value) (x : Str) (st : Stmt) (ps : List Str) : Prop where
  ex : ∃ f fd, mg x = some (.ref f) ∧ Fun K x x st f fd ∧ Binds K fd ps []
structure Fn (P : Program) (w : World) (K : PySem.W.Frag) (mg : Str → Option Value) (base : Heap) (x : Str) (k : Nat) (ps : List Str) (sp : Sp) : Prop where
  ex : ∃ f fd, mg x = some (.ref f) ∧ FnOk P w K mg base CX0 k f fd ps sp ∧ PySem.W.keepIn K (.ref f) = true ∧ Binds K fd ps [] ∧ ∃ oc od osl, K.lookup f = some ⟨oc, od, .func fd, osl⟩
section
variable {P : Program} {w : World} {K : PySem.W.Frag} {mg : Str → Option Value} {base : Heap}
theorem Df.ok {x : Str} {st : Stmt} {N ps : List Str} {k : Nat} {sp : Sp} (D : Df K mg x st ps) (S : FnScope N ps (defScope st)) (len : ∀ vs H Q E, sp vs H Q E → vs.length = ps.length)
    (hbody : ∀ (f : Addr) (cdv : Value) (A : Around) (outer : List Env) (s : Shared) (H : Hp) (vs : List V) (Q : VK) (E : XK), Room k (A.deeper (envOfC x (defScope st) s.heap.objs.size f cdv)) → sp vs H Q E →
      ∃ t, PSs (cxOf CX0 P w K mg base N x (defScope st) f cdv A outer s H E).nox (defBody st) t ∧ t { nx := fun _ H' => Q .non H', rt := Q } (start N vs) H) : Fn P w K mg base x (k + 1) ps sp := by
  obtain ⟨f, fd, h1, F, b⟩ := D.ex
  obtain ⟨oc, od, kV, doc, pm, an, cdv, ct, osl, e1, lk, hcd⟩ := F.ex
  exact ⟨f, fd, h1, F.ok S len (hbody f), F.kp, b, oc, od, osl, lk⟩
theorem Fn.imp {x : Str} {ps : List Str} {k : Nat} {sp sp' : Sp} (F : Fn P w K mg base x k ps sp) (h : ∀ vs H Q E, sp' vs H Q E → sp vs H Q E) : Fn P w K mg base x k ps sp' := by
  obtain ⟨f, fd, h1, G, h2, b⟩ := F.ex
  exact ⟨f, fd, h1, G.imp h, h2, b⟩
end
section
variable {X : Cx} {x : Str} {k : Nat} {ps : List Str} {sp : Sp} {e : Expr} {es : List Expr} {t : TA} {p pos : Pos}
theorem pe_fn (F : Fn X.prog X.w X.K X.mg X.base x k ps sp) (hr : Room k X.A) (hg : Gl X x) (ha : PA X (e :: es) t) (hdb : (x == ("__debug__" : Str)) = false := by decide)
    (he : starEach (e :: es) X.env = (false, eval e X.env) :: starEach es X.env := by rfl) (hpl : (backTo pos (starEach es X.env)).any (·.1) = false := by rfl) :
    PE X (.Call (.Name x p) (e :: es) [] pos) (tCall sp [] E0 t) := by
  obtain ⟨f, fd, h1, G, h2, b, _⟩ := F.ex
  exact pe_call G hr hg h1 h2 b .nil pass0 ha hdb he hpl
theorem pe_fn0 (F : Fn X.prog X.w X.K X.mg X.base x k ps sp) (hr : Room k X.A) (hg : Gl X x) (hdb : (x == ("__debug__" : Str)) = false := by decide) : PE X (.Call (.Name x p) [] [] pos) (tCall sp [] E0 tNil) := by
  obtain ⟨f, fd, h1, G, h2, b, _⟩ := F.ex
  exact pe_call0 G hr hg h1 h2 b .nil pass0 hdb
end

/-! ### heaps -/
theorem sm_new {H : Hp} {p : Addr} {o : HO} (h : H p = none) : Same H (upd H p o) := fun b u e => by
  rw [upd_ne (ne_of_none e h)]
  exact e
theorem sm_mut {H H' : Hp} {p : Addr} {o : HO} (e : Same H H') (h : H p = none) : Same H (upd H' p o) := fun b u hb => by
  rw [upd_ne (ne_of_none hb h)]
  exact e b u hb
theorem sm_seqT {K : PySem.W.Frag} {H H' : Hp} {a : Addr} {xs : List V} (e : Same H H') (h : SqT K H a xs) : SqT K H' a xs := by
  rcases h with (h | ⟨o, h⟩) | h
  · exact .inl (.inl (e _ _ h))
  · exact .inl (.inr ⟨o, e _ _ h⟩)
  · exact .inr h
/-- all but b is as it was -/
def Kp (b : Addr) (H H' : Hp) : Prop := ∀ q o, q ≠ b → H q = some o → H' q = some o
theorem Kp.refl (b : Addr) (H : Hp) : Kp b H H := fun _ _ _ h => h
theorem Kp.trans {b : Addr} {H H1 H2 : Hp} (a : Kp b H H1) (c : Kp b H1 H2) : Kp b H H2 := fun q o n h => c q o n (a q o n h)
theorem Kp.of_same {b : Addr} {H H1 : Hp} (a : Same H H1) : Kp b H H1 := fun q o _ h => a q o h
theorem Kp.put {b : Addr} {H : Hp} {o : HO} : Kp b H (upd H b o) := fun q u n h => by
  rw [upd_ne n]
  exact h
theorem Kp.mut {b : Addr} {H H' : Hp} {p : Addr} {o : HO} (e : Kp b H H') (h : H p = none) : Kp b H (upd H' p o) := fun q u n hq => by
  rw [upd_ne (ne_of_none hq h)]
  exact e q u n hq
theorem Kp.free {b : Addr} {H H' : Hp} (e : Kp b H H') {l : Addr} (hb : l ≠ b) (h : H' l = Option.none) : H l = Option.none := by
  cases q : H l with
  | none => rfl
  | some o =>
    rw [e l o hb q] at h
    cases h
end CM

/-! readings as functions of the values and of what stands in the heap -/
namespace CM
open PySem PySem.Spec PyProof.Rows L2

/-! ### operators -/
def addO (a b : Option HO) (H : Hp) (Q : VK) : Prop := match a, b with
  | some (.lst xs), some (.lst ys) => xs.length + ys.length ≤ 16777216 ∧ ∀ r, H r = none → Q (.ref r) (upd H r (.lst (xs ++ ys)))
  | _, _ => False
def rAddF : R2
  | .int i, .int j, H, Q => Q (.int (i + j)) H
  | .str a, .str b, H, Q => a.length + b.length ≤ 16777216 ∧ Q (.str (a ++ b)) H
  | .ref p, .ref q, H, Q => addO (H p) (H q) H Q
  | _, _, _, _ => False
def rIaddF : R2
  | .int i, .int j, H, Q => Q (.int (i + j)) H
  | .str a, .str b, H, Q => a.length + b.length ≤ 16777216 ∧ Q (.str (a ++ b)) H
  | _, _, _, _ => False
def rSubF : R2
  | .int i, .int j, H, Q => Q (.int (i - j)) H
  | _, _, _, _ => False
def mulO (a : Option HO) (j : Int) (H : Hp) (Q : VK) : Prop := match a with
  | some (.lst xs) => -(2 ^ 63) ≤ j ∧ j < 2 ^ 63 ∧ xs.length * j.toNat ≤ 16777216 ∧ ∀ r, H r = none → Q (.ref r) (upd H r (.lst (List.replicate j.toNat xs).flatten))
  | _ => False
def rMulF : R2
  | .int i, .int j, H, Q => CMul i j ∧ Q (.int (i * j)) H
  | .str a, .int j, H, Q => 0 ≤ j ∧ a.length * j.toNat ≤ 16777216 ∧ j ≤ 16777216 ∧ Q (.str (sL (repL (tl a) j.toNat))) H
  | .ref p, .int j, H, Q => mulO (H p) j H Q
  | _, _, _, _ => False
def rFdivF : R2
  | .int i, .int j, H, Q => CDiv i j ∧ Q (.int (i / j)) H
  | _, _, _, _ => False
def rModF : R2
  | .int i, .int j, H, Q => 0 < j ∧ Q (.int (i % j)) H
  | _, _, _, _ => False
def rPowF : R2
  | .int i, .int j, H, Q => CPow i j ∧ Q (.int (i ^ j.toNat)) H
  | _, _, _, _ => False
section
variable {X : Cx}
theorem opImp {f : Value → Value → Sem Value} {r r' : R2} (h : OpR X f r) (hi : ∀ x y H Q, r' x y H Q → r x y H Q) : OpR X f r' := fun pins s σ H x y v u Q I rx ry q => h pins s σ H x y v u Q I rx ry (hi _ _ _ _ q)
theorem op_addF : OpR X (binaryOp .Add) rAddF := by
  refine opImp (L2.OpR.or (L2.OpR.or op_add op_add_str) op_cat) fun x y H Q h => ?_
  unfold rAddF at h
  split at h
  · exact .inl (.inl ⟨_, _, rfl, rfl, h⟩)
  · exact .inl (.inr ⟨_, _, rfl, rfl, h⟩)
  · unfold addO at h
    split at h
    · exact .inr ⟨_, _, _, _, rfl, rfl, by assumption, by assumption, h⟩
    · exact h.elim
  · exact h.elim
theorem iop_addF : OpR X (inplaceOp .Add) rIaddF := by
  refine opImp (L2.OpR.or iop_add iop_add_str) fun x y H Q h => ?_
  unfold rIaddF at h
  split at h
  · exact .inl ⟨_, _, rfl, rfl, h⟩
  · exact .inr ⟨_, _, rfl, rfl, h⟩
  · exact h.elim
theorem op_subF : OpR X (binaryOp .Sub) rSubF := by
  refine opImp op_sub fun x y H Q h => ?_
  unfold rSubF at h
  split at h
  · exact ⟨_, _, rfl, rfl, h⟩
  · exact h.elim
theorem op_mulF : OpR X (binaryOp .Mult) rMulF := by
  refine opImp (L2.OpR.or (L2.OpR.or op_mul op_mulS) op_rep) fun x y H Q h => ?_
  unfold rMulF at h
  split at h
  · exact .inl (.inl ⟨_, _, rfl, rfl, h⟩)
  · obtain ⟨h0, h1, h2, h3⟩ := h
    rename_i a j
    refine .inl (.inr ⟨tl a, j.toNat, by rw [sL_tl], by rw [Int.toNat_of_nonneg h0], by rw [← len_tl]; exact h1, by omega, h3⟩)
  · unfold mulO at h
    split at h
    · exact .inr ⟨_, _, _, rfl, rfl, by assumption, h⟩
    · exact h.elim
  · exact h.elim
theorem op_fdivF : OpR X (binaryOp .FloorDiv) rFdivF := by
  refine opImp op_fdiv fun x y H Q h => ?_
  unfold rFdivF at h
  split at h
  · exact ⟨_, _, rfl, rfl, h⟩
  · exact h.elim
theorem op_modF : OpR X (binaryOp .Mod) rModF := by
  refine opImp op_mod fun x y H Q h => ?_
  unfold rModF at h
  split at h
  · exact ⟨_, _, rfl, rfl, h⟩
  · exact h.elim
theorem op_powF : OpR X (binaryOp .Pow) rPowF := by
  refine opImp op_pow fun x y H Q h => ?_
  unfold rPowF at h
  split at h
  · exact ⟨_, _, rfl, rfl, h⟩
  · exact h.elim
end

/-! ### comparisons -/
def rLtF : R2
  | .int i, .int j, H, Q => Q (.bl (decide (i < j))) H
  | _, _, _, _ => False
def rLeF : R2
  | .int i, .int j, H, Q => Q (.bl (decide (i ≤ j))) H
  | _, _, _, _ => False
def rGtF : R2
  | .int i, .int j, H, Q => Q (.bl (decide (j < i))) H
  | _, _, _, _ => False
def rGeF : R2
  | .int i, .int j, H, Q => Q (.bl (decide (j ≤ i))) H
  | _, _, _, _ => False
section
variable {X : Cx}
theorem op_ltF : OpR X (compareOp .Lt) rLtF := opImp op_lt fun x y H Q h => by
  unfold rLtF at h
  split at h
  · exact ⟨_, _, rfl, rfl, h⟩
  · exact h.elim
theorem op_leF : OpR X (compareOp .LtE) rLeF := opImp op_le fun x y H Q h => by
  unfold rLeF at h
  split at h
  · exact ⟨_, _, rfl, rfl, h⟩
  · exact h.elim
theorem op_gtF : OpR X (compareOp .Gt) rGtF := opImp op_gt fun x y H Q h => by
  unfold rGtF at h
  split at h
  · exact ⟨_, _, rfl, rfl, h⟩
  · exact h.elim
theorem op_geF : OpR X (compareOp .GtE) rGeF := opImp op_ge fun x y H Q h => by
  unfold rGeF at h
  split at h
  · exact ⟨_, _, rfl, rfl, h⟩
  · exact h.elim
end
def rEqF : R2
  | .int i, .int j, H, Q => Q (.bl (decide (i = j))) H
  | .str a, .str b, H, Q => Q (.bl (decide (a = b))) H
  | .bl a, .bl b, H, Q => Q (.bl (decide (a = b))) H
  | .non, .non, H, Q => Q (.bl true) H
  | .non, .int _, H, Q => Q (.bl false) H
  | .non, .str _, H, Q => Q (.bl false) H
  | .int _, .str _, H, Q => Q (.bl false) H
  | .str _, .int _, H, Q => Q (.bl false) H
  | .int _, .non, H, Q => Q (.bl false) H
  | .str _, .non, H, Q => Q (.bl false) H
  | _, _, _, _ => False
def rNeF : R2 := fun x y H Q => rEqF x y H fun v H' => ∃ b, v = .bl b ∧ Q (.bl (!b)) H'
section
variable {X : Cx}
theorem op_eqF : OpR X (compareOp .Eq) rEqF := opImp op_eq fun x y H Q h => by
  unfold rEqF at h
  split at h
  case h_11 => exact h.elim
  all_goals refine ⟨rfl, ?_⟩
  all_goals simp at h ⊢
  all_goals exact h
theorem op_neF : OpR X (compareOp .NotEq) rNeF := opImp op_ne fun x y H Q h => by
  unfold rNeF rEqF at h
  split at h
  case h_11 => exact h.elim
  all_goals refine ⟨rfl, ?_⟩
  all_goals simp at h ⊢
  all_goals exact h
end
def rInF : R2
  | .str a, .str z, H, Q => ∃ c, a = ⟨#[c]⟩ ∧ Q (.bl (decide (c ∈ z.cps.toList))) H
  | _, _, _, _ => False
def rNotInF : R2
  | .str a, .str z, H, Q => ∃ c, a = ⟨#[c]⟩ ∧ Q (.bl (!decide (c ∈ z.cps.toList))) H
  | _, _, _, _ => False
section
variable {X : Cx}
theorem op_inF : OpR X (compareOp .In) rInF := opImp op_in_sign fun x y H Q h => by
  unfold rInF at h
  split at h
  · obtain ⟨c, rfl, q⟩ := h
    exact ⟨c, _, rfl, rfl, q⟩
  · exact h.elim
theorem op_notInF : OpR X (compareOp .NotIn) rNotInF := opImp op_notIn_sign fun x y H Q h => by
  unfold rNotInF at h
  split at h
  · obtain ⟨c, rfl, q⟩ := h
    exact ⟨c, _, rfl, rfl, q⟩
  · exact h.elim
end

/-! ### items, slices -/
def atO (o : Option HO) (i : Int) (H : Hp) (Q : VK) : Prop := match o with
  | some (.lst xs) => (match atI xs i with | some v => Q v H | none => False)
  | some (.tup xs) => (match atI xs i with | some v => Q v H | none => False)
  | _ => False
def rIxF : R2
  | .ref p, .int i, H, Q => atO (H p) i H Q
  | .str z, .int i, H, Q => z.length ≤ 16777216 ∧ (match atI z.cps.toList i with | some c => Q (.str ⟨#[c]⟩) H | none => False)
  | _, _, _, _ => False
def slO (o : Option HO) (lo hi : Option Int) (H : Hp) (Q : VK) : Prop := match o with
  | some (.lst xs) => ∀ p, H p = none → Q (.ref p) (upd H p (.lst (cutV xs lo hi)))
  | _ => False
def rSlF : V → Option Int → Option Int → Hp → VK → Prop
  | .ref p, lo, hi, H, Q => slO (H p) lo hi H Q
  | .str z, lo, hi, H, Q => z.length ≤ 16777216 ∧ Q (.str (cutS z lo hi)) H
  | _, _, _, _, _ => False
def rSetF : V → V → V → Hp → (Hp → Prop) → Prop
  | .ref p, .int i, v, H, Q => (match H p with
    | some (.lst xs) => (match ixN xs.length i with | some j => Q (upd H p (.lst (xs.set j v))) | none => False)
    | _ => False)
  | _, _, _, _, _ => False
section
variable {X : Cx}
theorem ixImp {r r' : R2} (h : IxR X r) (hi : ∀ x y H Q, r' x y H Q → r x y H Q) : IxR X r' := fun a b pins s σ H x y v u Q I rx ry q hs => h a b pins s σ H x y v u Q I rx ry (hi _ _ _ _ q) hs
theorem ix_F : IxR X rIxF := by
  refine ixImp (L2.IxR.or ix_list (L2.IxR.or ix_tup ix_str)) fun x y H Q h => ?_
  unfold rIxF at h
  split at h
  · unfold atO at h
    split at h
    · rename_i h0
      split at h
      · exact .inl ⟨_, _, _, _, rfl, rfl, SqL.of h0, by assumption, h⟩
      · exact h.elim
    · rename_i h0
      split at h
      · exact .inr (.inl ⟨_, _, _, _, rfl, rfl, SqT.of h0, by assumption, h⟩)
      · exact h.elim
    · exact h.elim
  · obtain ⟨h1, h⟩ := h
    split at h
    · exact .inr (.inr ⟨_, _, _, rfl, rfl, h1, by assumption, h⟩)
    · exact h.elim
  · exact h.elim
theorem sl_F : SlR X rSlF := by
  intro pins s σ H x v vl vu lo hi sl Q I rx hs pl pu h
  unfold rSlF at h
  split at h
  · unfold slO at h
    split at h
    · rename_i h0
      exact sl_list pins s σ H _ v vl vu lo hi sl Q I rx hs pl pu ⟨_, _, rfl, SqL.of h0, h⟩
    · exact h.elim
  · exact sl_str pins s σ H _ v vl vu lo hi sl Q I rx hs pl pu ⟨_, rfl, h⟩
  · exact h.elim
theorem set_F : PSet X rSetF := by
  intro pins s σ H o i v ov iv u Q I r1 r2 r3 h
  unfold rSetF at h
  split at h
  · split at h
    · split at h
      · exact set_list pins s σ H _ _ v ov iv u Q I r1 r2 r3 ⟨_, _, _, _, rfl, rfl, by assumption, by assumption, h⟩
      · exact h.elim
    · exact h.elim
  · exact h.elim
end

/-! ### calls of built-ins -/
def asInts : List V → Option (List Int)
  | [] => some []
  | .int i :: r => (asInts r).map (i :: ·)
  | _ :: _ => none
theorem asInts_map : ∀ ns : List Int, asInts (ns.map V.int) = some ns
  | [] => rfl
  | n :: r => by
    show (asInts (r.map V.int)).map (n :: ·) = _
    rw [asInts_map r]
    rfl
theorem asInts_some : ∀ {xs : List V} {ns : List Int}, asInts xs = some ns → xs = ns.map V.int
  | [], ns, h => by
    cases h
    rfl
  | .int i :: r, ns, h => by
    have h : (asInts r).map (i :: ·) = some ns := h
    cases e : asInts r with
    | none =>
      rw [e] at h
      cases h
    | some ms =>
      rw [e] at h
      cases h
      rw [asInts_some e]
      rfl
  | .non :: _, _, h => by cases h
  | .bl _ :: _, _, h => by cases h
  | .str _ :: _, _, h => by cases h
  | .byt _ :: _, _, h => by cases h
  | .flt _ :: _, _, h => by cases h
  | .ref _ :: _, _, h => by cases h
  | .ty _ :: _, _, h => by cases h
def asBools : List V → Option (List Bool)
  | [] => some []
  | .bl i :: r => (asBools r).map (i :: ·)
  | _ :: _ => none
theorem asBools_map : ∀ ns : List Bool, asBools (ns.map V.bl) = some ns
  | [] => rfl
  | n :: r => by
    show (asBools (r.map V.bl)).map (n :: ·) = _
    rw [asBools_map r]
    rfl
theorem asBools_some : ∀ {xs : List V} {ns : List Bool}, asBools xs = some ns → xs = ns.map V.bl
  | [], ns, h => by
    cases h
    rfl
  | .bl i :: r, ns, h => by
    have h : (asBools r).map (i :: ·) = some ns := h
    cases e : asBools r with
    | none =>
      rw [e] at h
      cases h
    | some ms =>
      rw [e] at h
      cases h
      rw [asBools_some e]
      rfl
  | .non :: _, _, h => by cases h
  | .int _ :: _, _, h => by cases h
  | .str _ :: _, _, h => by cases h
  | .byt _ :: _, _, h => by cases h
  | .flt _ :: _, _, h => by cases h
  | .ref _ :: _, _, h => by cases h
  | .ty _ :: _, _, h => by cases h
def asStrs : List V → Option (List Str)
  | [] => some []
  | .str i :: r => (asStrs r).map (i :: ·)
  | _ :: _ => none
theorem asStrs_map : ∀ ns : List Str, asStrs (ns.map V.str) = some ns
  | [] => rfl
  | n :: r => by
    show (asStrs (r.map V.str)).map (n :: ·) = _
    rw [asStrs_map r]
    rfl
theorem asStrs_some : ∀ {xs : List V} {ns : List Str}, asStrs xs = some ns → xs = ns.map V.str
  | [], ns, h => by
    cases h
    rfl
  | .str i :: r, ns, h => by
    have h : (asStrs r).map (i :: ·) = some ns := h
    cases e : asStrs r with
    | none =>
      rw [e] at h
      cases h
    | some ms =>
      rw [e] at h
      cases h
      rw [asStrs_some e]
      rfl
  | .non :: _, _, h => by cases h
  | .int _ :: _, _, h => by cases h
  | .bl _ :: _, _, h => by cases h
  | .byt _ :: _, _, h => by cases h
  | .flt _ :: _, _, h => by cases h
  | .ref _ :: _, _, h => by cases h
  | .ty _ :: _, _, h => by cases h

abbrev RC := List V → Hp → VK → Prop
def lenO (o : Option HO) (H : Hp) (Q : VK) : Prop := match o with
  | some (.lst xs) => Q (.int (xs.length : Int)) H
  | some (.tup xs) => Q (.int (xs.length : Int)) H
  | _ => False
def rLenF : RC
  | [.str z], H, Q => z.length ≤ 16777216 ∧ Q (.int (z.length : Int)) H
  | [.ref p], H, Q => lenO (H p) H Q
  | _, _, _ => False
def rAbsF : RC
  | [.int i], H, Q => Q (.int (if i < 0 then -i else i)) H
  | _, _, _ => False
def maxO (o : Option HO) (H : Hp) (Q : VK) : Prop := match o with
  | some (.lst xs) => (match asInts xs with | some ns => 0 < ns.length ∧ ∀ m, m ∈ ns → (∀ y, y ∈ ns → y ≤ m) → Q (.int m) H | none => False)
  | _ => False
def minO (o : Option HO) (H : Hp) (Q : VK) : Prop := match o with
  | some (.lst xs) => (match asInts xs with | some ns => 0 < ns.length ∧ ∀ m, m ∈ ns → (∀ y, y ∈ ns → m ≤ y) → Q (.int m) H | none => False)
  | _ => False
def rMaxF : RC
  | [.int i, .int j], H, Q => Q (.int (if j > i then j else i)) H
  | [.ref p], H, Q => maxO (H p) H Q
  | _, _, _ => False
def rMinF : RC
  | [.int i, .int j], H, Q => Q (.int (if j < i then j else i)) H
  | [.ref p], H, Q => minO (H p) H Q
  | _, _, _ => False
def rIntF : RC
  | [.int i], H, Q => Q (.int i) H
  | [.bl b], H, Q => Q (.int (if b then 1 else 0)) H
  | [.str a], H, Q => (match PySem.intText? a with | some n => a.length ≤ 640 ∧ Q (.int n) H | none => False)
  | _, _, _ => False
def rStrF : RC
  | [.int i], H, Q => i.natAbs.log2 < 1920 ∧ Q (.str (toString i)) H
  | _, _, _ => False
def listO (o : Option HO) (H : Hp) (Q : VK) : Prop := match o with
  | some (.lst xs) => ∀ l, H l = none → Q (.ref l) (upd H l (.lst xs))
  | some (.tup xs) => ∀ l, H l = none → Q (.ref l) (upd H l (.lst xs))
  | _ => False
def rListF : RC
  | [.ref p], H, Q => listO (H p) H Q
  | _, _, _ => False
def tupO (p : Addr) (o : Option HO) (H : Hp) (Q : VK) : Prop := match o with
  | some (.lst xs) => ∀ l, H l = none → Q (.ref l) (upd H l (.tup xs))
  | some (.tup _) => Q (.ref p) H
  | _ => False
def rTupF : RC
  | [.ref p], H, Q => tupO p (H p) H Q
  | _, _, _ => False
def sumO (o : Option HO) (H : Hp) (Q : VK) : Prop := match o with
  | some (.lst xs) => (match asInts xs with | some ns => Q (.int ns.sum) H | none => False)
  | _ => False
def rSumF : RC
  | [.ref p], H, Q => sumO (H p) H Q
  | _, _, _ => False
def allO (o : Option HO) (H : Hp) (Q : VK) : Prop := match o with
  | some (.lst xs) => (match asBools xs with | some ns => Q (.bl (ns.all id)) H | none => False)
  | _ => False
def rAllF : RC
  | [.ref p], H, Q => allO (H p) H Q
  | _, _, _ => False
section
variable {X : Cx}
theorem callImp {f : Value} {r r' : RC} (h : CallR X f r) (hi : ∀ xs H Q, r' xs H Q → r xs H Q) : CallR X f r' := fun pins s σ H xs us Q I rx q => h pins s σ H xs us Q I rx (hi _ _ _ q)
theorem call_lenF : CallR X (.builtin "len") rLenF := by
  refine callImp (L2.CallR.or call_len_str call_len_seq) fun xs H Q h => ?_
  unfold rLenF at h
  split at h
  · exact .inl ⟨_, rfl, h⟩
  · unfold lenO at h
    split at h
    · rename_i h0
      exact .inr ⟨_, _, rfl, .inl (SqL.of h0), h⟩
    · rename_i h0
      exact .inr ⟨_, _, rfl, .inr (SqT.of h0), h⟩
    · exact h.elim
  · exact h.elim
theorem call_absF : CallR X (.builtin "abs") rAbsF := callImp call_abs fun xs H Q h => by
  unfold rAbsF at h
  split at h
  · exact ⟨_, rfl, h⟩
  · exact h.elim
theorem call_maxF (hc : X.calm = true) : CallR X (.builtin "max") rMaxF := by
  refine callImp (L2.CallR.or (call_max2 hc) (cr_max hc)) fun xs H Q h => ?_
  unfold rMaxF at h
  split at h
  · exact .inl ⟨_, _, rfl, h⟩
  · unfold maxO at h
    split at h
    · rename_i h0
      split at h
      · rename_i h1
        exact .inr ⟨_, _, rfl, by rw [← asInts_some h1]; exact SqL.of h0, h⟩
      · exact h.elim
    · exact h.elim
  · exact h.elim
theorem call_minF (hc : X.calm = true) : CallR X (.builtin "min") rMinF := by
  refine callImp (L2.CallR.or (call_min2 hc) (cr_min hc)) fun xs H Q h => ?_
  unfold rMinF at h
  split at h
  · exact .inl ⟨_, _, rfl, h⟩
  · unfold minO at h
    split at h
    · rename_i h0
      split at h
      · rename_i h1
        exact .inr ⟨_, _, rfl, by rw [← asInts_some h1]; exact SqL.of h0, h⟩
      · exact h.elim
    · exact h.elim
  · exact h.elim
theorem call_intF' : CallR X (.type "int") rIntF := by
  refine callImp (L2.CallR.or call_int1 call_int_str) fun xs H Q h => ?_
  unfold rIntF at h
  split at h
  · exact .inl (.inl ⟨_, rfl, h⟩)
  · exact .inl (.inr ⟨_, rfl, h⟩)
  · split at h
    · exact .inr ⟨_, _, rfl, by assumption, h⟩
    · exact h.elim
  · exact h.elim
theorem call_strF : CallR X (.type "str") rStrF := callImp call_str_int fun xs H Q h => by
  unfold rStrF at h
  split at h
  · exact ⟨_, rfl, h⟩
  · exact h.elim
theorem call_listF : CallR X (.type "list") rListF := callImp call_list_of fun xs H Q h => by
  unfold rListF at h
  split at h
  · unfold listO at h
    split at h
    · rename_i h0
      exact ⟨_, _, rfl, .inl (SqL.of h0), h⟩
    · rename_i h0
      exact ⟨_, _, rfl, .inr (SqT.of h0), h⟩
    · exact h.elim
  · exact h.elim
theorem call_tupF : CallR X (.type "tuple") rTupF := callImp call_tuple_of fun xs H Q h => by
  unfold rTupF at h
  split at h
  · unfold tupO at h
    split at h
    · rename_i h0
      exact ⟨_, _, rfl, .inl ⟨SqL.of h0, h⟩⟩
    · rename_i h0
      exact ⟨_, _, rfl, .inr ⟨SqT.of h0, h⟩⟩
    · exact h.elim
  · exact h.elim
theorem call_sumF (hc : X.calm = true) : CallR X (.builtin "sum") rSumF := callImp (cr_sum hc) fun xs H Q h => by
  unfold rSumF at h
  split at h
  · unfold sumO at h
    split at h
    · rename_i h0
      split at h
      · rename_i h1
        exact ⟨_, _, rfl, by rw [← asInts_some h1]; exact SqL.of h0, h⟩
      · exact h.elim
    · exact h.elim
  · exact h.elim
theorem call_allF (hc : X.calm = true) : CallR X (.builtin "all") rAllF := callImp (cr_all hc) fun xs H Q h => by
  unfold rAllF at h
  split at h
  · unfold allO at h
    split at h
    · rename_i h0
      split at h
      · rename_i h1
        exact ⟨_, _, rfl, by rw [← asBools_some h1]; exact SqL.of h0, h⟩
      · exact h.elim
    · exact h.elim
  · exact h.elim
end

/-! ### isinstance of plain values and built-in classes -/
def tyF (x : V) (H : Hp) : Option String := match x with
  | .non => some "NoneType"
  | .bl _ => some "bool"
  | .int _ => some "int"
  | .str _ => some "str"
  | .ref a => (match H a with
    | some (.lst _) => some "list"
    | some (.tup _) => some "tuple"
    | some (.dK _) => some "dict"
    | some (.dT _) => some "dict"
    | _ => none)
  | _ => none
theorem tyF_of {K : PySem.W.Frag} {H : Hp} {x : V} {T : String} (h : tyF x H = some T) : TyX K H x (.type T) := by
  unfold tyF at h
  split at h
  · cases h; exact .base .non
  · cases h; exact .base (.bl _)
  · cases h; exact .base (.int _)
  · cases h; exact .base (.str _)
  · split at h
    · rename_i h0; cases h; exact .base (.lst h0)
    · rename_i h0; cases h; exact .base (.tup h0)
    · rename_i h0; cases h; exact .base (.dK h0)
    · rename_i h0; cases h; exact .base (.dT h0)
    · cases h
  · cases h
/-- is a built-in class below another one (of those that are met here) -/
def subTy (T U : String) : Bool := T == U || (T == "bool" && U == "int")
def okTy (T : String) : Bool := T == "NoneType" || T == "bool" || T == "int" || T == "str" || T == "list" || T == "tuple" || T == "dict"
def rIsiF : RC
  | [x, .ty U], H, Q => (match tyF x H with | some T => okTy U = true ∧ Q (.bl (subTy T U)) H | none => False)
  | _, _, _ => False
theorem kit_of_ty {K : PySem.W.Frag} {T U : String} (hT : okTy T = true) (hU : okTy U = true) : PySem.W.kitOne K (.type T) (.type U) = some (subTy T U) := by
  unfold okTy at hT hU
  simp only [Bool.or_eq_true, beq_iff_eq] at hT hU
  rcases hT with (((((hT | hT) | hT) | hT) | hT) | hT) | hT <;> subst hT <;> rcases hU with (((((hU | hU) | hU) | hU) | hU) | hU) | hU <;> subst hU <;> rfl
theorem tyF_ok {x : V} {H : Hp} {T : String} (h : tyF x H = some T) : okTy T = true := by
  unfold tyF at h
  split at h
  · cases h; rfl
  · cases h; rfl
  · cases h; rfl
  · cases h; rfl
  · split at h <;> first | (cases h; rfl) | cases h
  · cases h
section
variable {X : Cx}
theorem call_isiF : CallR X (.builtin "isinstance") rIsiF := callImp call_isi fun xs H Q h => by
  unfold rIsiF at h
  split at h
  · split at h
    · rename_i h0
      exact ⟨_, _, _, _, _, rfl, .ty _, tyF_of h0, kit_of_ty (tyF_ok h0) h.1, h.2⟩
    · exact h.elim
  · exact h.elim
end

/-! ### methods -/
def isL (x : V) (H : Hp) : Prop := match x with
  | .ref p => (match H p with | some (.lst _) => True | _ => False)
  | _ => False
theorem isL_ty {K : PySem.W.Frag} {x : V} {H : Hp} (h : isL x H) : tyV K "list" x H := by
  unfold isL at h
  split at h
  · split at h
    · rename_i h0
      exact .inl ⟨rfl, _, SqL.of h0⟩
    · exact h.elim
  · exact h.elim
def tLM0 (r : V → List V → Hp → VK → Prop) (to : TE) : TE := fun σ H Q => to σ H fun x H1 => isL x H1 ∧ r x [] H1 Q
def tLM (r : V → List V → Hp → VK → Prop) (to : TE) (t : TA) : TE := fun σ H Q => to σ H fun x H1 => isL x H1 ∧ t σ H1 fun xs H2 => r x xs H2 Q
def rAppF : V → List V → Hp → VK → Prop
  | .ref l, [y], H, Q => (match H l with | some (.lst xs) => xs.length < 16777216 ∧ Q .non (upd H l (.lst (xs ++ [y]))) | _ => False)
  | _, _, _, _ => False
def rPopF : V → List V → Hp → VK → Prop
  | .ref l, [], H, Q => (match H l with | some (.lst xs) => (match xs[xs.length - 1]? with | some y => Q y (upd H l (.lst xs.dropLast)) | none => False) | _ => False)
  | .ref l, [.int i], H, Q => (match H l with | some (.lst xs) => 0 ≤ i ∧ (match xs[i.toNat]? with | some y => i < 16777216 ∧ Q y (upd H l (.lst (xs.eraseIdx i.toNat))) | none => False) | _ => False)
  | _, _, _, _ => False
def rClearF : V → List V → Hp → VK → Prop
  | .ref l, [], H, Q => (match H l with | some (.lst _) => Q .non (upd H l (.lst [])) | _ => False)
  | _, _, _, _ => False
def rExtF : V → List V → Hp → VK → Prop
  | .ref l, [.ref b], H, Q => (match H l, H b with | some (.lst xs), some (.lst zs) => xs.length + zs.length ≤ 16777216 ∧ Q .non (upd H l (.lst (xs ++ zs))) | _, _ => False)
  | _, _, _, _ => False
section
variable {X : Cx} {o e : Expr} {es : List Expr} {to : TE} {t : TA} {r r' : V → List V → Hp → VK → Prop} {id : String}
theorem PE.imp {e : Expr} {t t' : TE} (h : PE X e t) (hi : ∀ σ H Q, t' σ H Q → t σ H Q) : PE X e t' := ⟨fun pins s σ H Q I q => h.run pins s σ H Q I (hi _ _ _ q)⟩
theorem mtImp (h : MtR X id r) (hi : ∀ x xs H Q, r' x xs H Q → r x xs H Q) : MtR X id r' := fun pins s σ H x xs v us Q I rx rs q => h pins s σ H x xs v us Q I rx rs (hi _ _ _ _ q)
theorem seqIx {i : Int} {xs : List V} {y : V} (h0 : 0 ≤ i) (h : xs[i.toNat]? = some y) : seqIndex? i xs.length = some i.toNat := by
  have hl : i.toNat < xs.length := (List.getElem?_eq_some_iff.mp h).1
  unfold seqIndex?
  simp
  omega
end
end CM

namespace CM
open PySem PySem.Spec PyProof.Rows L2
/-- a reading that may be asked for less -/
def up (t : TE) : TE := fun σ H Q => ∃ Q0 : VK, t σ H Q0 ∧ ∀ x H1, Q0 x H1 → Q x H1
section
variable {X : Cx} {o e : Expr} {es : List Expr} {to te : TE} {t : TA} {r r' : V → List V → Hp → VK → Prop} {id : String} {name : Str} {apos cpos : Pos}
theorem pe_up {e : Expr} {t : TE} (h : PE X e t) : PE X e (up t) := ⟨fun pins s σ H Q I ⟨_, q, hi⟩ => thn (h.run pins s σ H _ I q) fun _ _ ⟨x, H1, I1, r1, q1⟩ => ⟨x, H1, I1, r1, hi _ _ q1⟩⟩
theorem pe_lm0 (slot : Slot "list" name id) (hty : typeOf (.builtin id) = pure (.type "method_descriptor")) (hm : MtR X id r) (ho : PE X o to) (hb : attributeBase o name X.env (eval o X.env) = eval o X.env := by rfl)
    (hl : (apos.endLine == cpos.line) = true := by rfl) : PE X (.Call (.Attribute o name apos) [] [] cpos) (tLM0 r to) :=
  PE.imp (pe_bm0 PySem.F.plainAttrs_list slot hty hm (pe_up ho) hb hl) fun _ _ _ h => ⟨_, h, fun _ _ q => ⟨isL_ty q.1, q.2⟩⟩
theorem pe_lm (slot : Slot "list" name id) (hty : typeOf (.builtin id) = pure (.type "method_descriptor")) (hm : MtR X id r) (ho : PE X o to) (ha : PA X (e :: es) t) (hb : attributeBase o name X.env (eval o X.env) = eval o X.env := by rfl)
    (hf : ((backTo cpos (starEach (e :: es) X.env)).all (fun x => !x.1) && (backToKw cpos (keywordEach [] X.env)).all (fun x => x.1.isSome) && decide ((e :: es).length + ([] : List Keyword).length + (if ([] : List Keyword).isEmpty then 0 else 1) < 30)) = true := by rfl)
    (hl : (apos.endLine == cpos.line) = true := by rfl) (hs : starEach (e :: es) X.env = (false, eval e X.env) :: starEach es X.env := by rfl) (hp : (backTo cpos (starEach es X.env)).any (·.1) = false := by rfl) :
    PE X (.Call (.Attribute o name apos) (e :: es) [] cpos) (tLM r to t) :=
  PE.imp (pe_bm PySem.F.plainAttrs_list slot hty hm (pe_up ho) ha hb hf hl hs hp) fun _ _ _ h => ⟨_, h, fun _ _ q => ⟨isL_ty q.1, q.2⟩⟩
theorem mt_appF : MtR X "list.append" rAppF := mtImp mt_append fun x xs H Q h => by
  unfold rAppF at h
  split at h
  · split at h
    · exact ⟨_, _, _, rfl, rfl, by assumption, h⟩
    · exact h.elim
  · exact h.elim
theorem mt_popF : MtR X "list.pop" rPopF := mtImp (L2.MtR.or mt_pop mt_popAt) fun x xs H Q h => by
  unfold rPopF at h
  split at h
  · split at h
    · split at h
      · exact .inl ⟨_, _, _, rfl, rfl, by assumption, by assumption, h⟩
      · exact h.elim
    · exact h.elim
  · split at h
    · obtain ⟨h0, h⟩ := h
      split at h
      · rename_i h1
        exact .inr ⟨_, _, _, _, _, rfl, rfl, by assumption, by omega, by omega, seqIx h0 h1, h1, h.2⟩
      · exact h.elim
    · exact h.elim
  · exact h.elim
theorem mt_clearF : MtR X "list.clear" rClearF := mtImp mt_clear fun x xs H Q h => by
  unfold rClearF at h
  split at h
  · split at h
    · exact ⟨_, _, rfl, rfl, by assumption, h⟩
    · exact h.elim
  · exact h.elim
theorem mt_extF : MtR X "list.extend" rExtF := mtImp mt_extend fun x xs H Q h => by
  unfold rExtF at h
  split at h
  · split at h
    · exact ⟨_, _, _, _, rfl, rfl, by assumption, by assumption, h⟩
    · exact h.elim
  · exact h.elim

/-! ### texts: join, split -/
def asCodes : List V → Option (List (List Nat))
  | [] => some []
  | .str i :: r => (asCodes r).map (tl i :: ·)
  | _ :: _ => none
theorem asCodes_map : ∀ ns : List (List Nat), asCodes (ns.map fun l => V.str (sL l)) = some ns
  | [] => rfl
  | n :: r => by
    show (asCodes (r.map fun l => V.str (sL l))).map (n :: ·) = _
    rw [asCodes_map r]
    rfl
theorem asCodes_some : ∀ {xs : List V} {ns : List (List Nat)}, asCodes xs = some ns → xs = (ns.map sL).map V.str
  | [], ns, h => by
    cases h
    rfl
  | .str i :: r, ns, h => by
    have h : (asCodes r).map (tl i :: ·) = some ns := h
    cases e : asCodes r with
    | none =>
      rw [e] at h
      cases h
    | some ms =>
      rw [e] at h
      cases h
      rw [asCodes_some e, List.map_cons, List.map_cons, sL_tl]
  | .non :: _, _, h => by cases h
  | .int _ :: _, _, h => by cases h
  | .bl _ :: _, _, h => by cases h
  | .byt _ :: _, _, h => by cases h
  | .flt _ :: _, _, h => by cases h
  | .ref _ :: _, _, h => by cases h
  | .ty _ :: _, _, h => by cases h
def joinO (a : Str) (o : Option HO) (H : Hp) (Q : VK) : Prop := match o with
  | some (.lst xs) => (match asCodes xs with | some ws => (ws.map (·.length)).sum + ws.length * a.length ≤ 16777216 ∧ Q (.str (sL (TL.joinL (tl a) ws))) H | none => False)
  | _ => False
def rJoinF : V → List V → Hp → VK → Prop
  | .str a, [.ref p], H, Q => joinO a (H p) H Q
  | _, _, _, _ => False
theorem join_sL (a : Str) (ws : List (List Nat)) : Txt.join a (ws.map sL) = sL (TL.joinL (tl a) ws) := by
  refine TL.ext_tl ?_
  rw [TL.join_eq, TL.tl_join, List.map_map]
  have e : (TL.tl ∘ sL) = id := rfl
  rw [e, List.map_id]
theorem lens_sL (ws : List (List Nat)) : (ws.map sL).map (·.length) = ws.map (·.length) := by
  rw [List.map_map]
  refine List.map_congr_left fun l _ => ?_
  exact len_sL l
theorem mt_joinF : MtR X "str.join" rJoinF := mtImp mt_join fun x xs H Q h => by
  unfold rJoinF at h
  split at h
  · unfold joinO at h
    split at h
    · rename_i h0
      split at h
      · rename_i a p _ _ _ ws h1
        refine ⟨a, p, ws.map sL, rfl, rfl, .inl (by rw [← asCodes_some h1]; exact SqL.of h0), ?_, ?_⟩
        · rw [lens_sL, List.length_map]
          exact h.1
        · rw [join_sL]
          exact h.2
      · exact h.elim
    · exact h.elim
  · exact h.elim
theorem pe_joinF (ho : PE X o to) (he : PE X e te) (hs : starEach [e] X.env = [(false, eval e X.env)] := by rfl) (hb : attributeBase o "join" X.env (eval o X.env) = eval o X.env := by rfl) (hl : (apos.endLine == cpos.line) = true := by rfl) :
    PE X (.Call (.Attribute o "join" apos) [e] [] cpos) (tM1 rJoinF to te) := pe_m1 PySem.F.slot_str_join PySem.F.type_str_join mt_joinF ho he hs hb hl
/-- a.split(b), b one sign -/
def splitL (c : Nat) (l : List Nat) : List (List Nat) := TL.spl [c] 0 [] l
def rSplitF : V → List V → Hp → VK → Prop
  | .str a, [.str b], H, Q => ∃ c, b = sL [c] ∧ c < 256 ∧ a.length ≤ 16777214 ∧ ∀ p, H p = none → Q (.ref p) (upd H p (.lst ((splitL c (tl a)).map fun l => V.str (sL l))))
  | _, _, _, _ => False
theorem split_sL {c : Nat} (hc : c < 256) (a : Str) : Txt.split a (sL [c]) = (splitL c (tl a)).map sL := by
  refine TL.map_tl_inj ?_
  have h := TL.split_spl a (sL [c]) (by show [c] ≠ []; simp) (TL.kind_ok (by show (([c] : List Nat).toArray.all (· < 256)) = true; simp [hc]))
  rw [h, List.map_map]
  have e : (TL.tl ∘ sL) = id := rfl
  rw [e, List.map_id]
  rfl
theorem mt_splitF : MtR X "str.split" rSplitF := mtImp mt_split fun x xs H Q h => by
  unfold rSplitF at h
  split at h
  · obtain ⟨c, rfl, hc, hl, q⟩ := h
    refine ⟨_, _, rfl, rfl, rfl, ?_, fun p hp => ?_⟩
    · show _ + 2 ≤ 2 ^ 24
      omega
    · rw [split_sL hc, List.map_map]
      exact q p hp
  · exact h.elim
theorem pe_splitF (ho : PE X o to) (he : PE X e te) (hs : starEach [e] X.env = [(false, eval e X.env)] := by rfl) (hb : attributeBase o "split" X.env (eval o X.env) = eval o X.env := by rfl) (hl : (apos.endLine == cpos.line) = true := by rfl) :
    PE X (.Call (.Attribute o "split" apos) [e] [] cpos) (tM1 rSplitF to te) := pe_m1 PySem.F.slot_str_split PySem.F.type_str_split mt_splitF ho he hs hb hl
end

/-! ### str(n), int(text) of figures -/
theorem toS (n : Nat) : (toString ((n : Nat) : Int) : Str) = sL (TL.numL n) := TL.ext_tl (TL.tl_num n)
end CM

namespace CM
open PySem PySem.Spec PyProof.Rows L2
abbrev St' := L2.St
def nones : Nat → L2.St
  | 0 => []
  | n + 1 => none :: nones n
theorem nones0 : nones 0 = [] := rfl
theorem nonesS {n : Nat} : nones (n + 1) = none :: nones n := rfl
theorem nones_eq : ∀ n, List.replicate n none = nones n
  | 0 => rfl
  | n + 1 => by
    rw [List.replicate_succ, nones_eq n]
    rfl
theorem start_eq {N : List Str} {vs : List V} : L2.start N vs = vs.map some ++ nones (N.length - vs.length) := by
  unfold L2.start
  rw [nones_eq]
/-- a seal: what stands beside it is left as it is -/
inductive Seal {α : Sort u} (a : α) : Type | mk
/-- a new object, wherever it comes to lie -/
def New (H : Hp) (o : HO) (Q : VK) (_ : Seal Q) : Prop := ∀ p, H p = none → Q (.ref p) (upd H p o)
theorem new_in {H : Hp} {o : HO} {Q : VK} (h : ∀ p H', H p = none → Same H H' → H' p = some o → Q (.ref p) H') : New H o Q .mk := fun p hp => h p _ hp (sm_new hp) upd_same
/-- a promise asked for -/
def CallSp (sp : Sp) (vs : List V) (H : Hp) (Q : VK) (_ : Seal Q) (E : XK) : Prop := sp vs H Q E
/-! ### the readings, fully applied -/
section
variable {σ : L2.St} {H : Hp} {Q : VK} {Qb : Bool → Hp → Prop} {Qa : List V → Hp → Prop} {D : Ends} {ta tb tc te to ti : TE} {c d : TT} {t u : TS} {as : TA} {g g' : TG} {gs : TGs} {r r' : R2} {v x : V}
theorem w_var {i : Nat} : tVar i σ H Q = (∃ v, σ[i]? = some (some v) ∧ Q v H) := rfl
theorem w_c : tC v σ H Q = Q v H := rfl
theorem w_seq : tSeq t u D σ H = t { D with nx := u D } σ H := rfl
theorem w_next : tNext D σ H = D.nx σ H := rfl
theorem w_brk : tBreak D σ H = D.bk σ H := rfl
theorem w_cont : tCont D σ H = D.ct σ H := rfl
theorem w_drop : tDrop te D σ H = te σ H fun _ H1 => D.nx σ H1 := rfl
theorem w_ret : tRet te D σ H = te σ H D.rt := rfl
theorem w_retN : tRetN D σ H = D.rt .non H := rfl
theorem w_ifs : tIfS c t u D σ H = c σ H fun b H1 => if b = true then t D σ H1 else u D σ H1 := rfl
theorem w_never : tNever D σ H = False := rfl
theorem w_asg : tAsg te g D σ H = te σ H fun x H1 => g x σ H1 D.nx := rfl
theorem w_aug {i : Nat} {k : TIp} : tAug i te k D σ H = ∃ x, σ[i]? = some (some x) ∧ te σ H fun y H1 => k x y H1 fun z H2 => D.nx (σ.set i (some z)) H2 := rfl
theorem w_gname {i : Nat} {R : L2.St → Hp → Prop} : gName i v σ H R = R (σ.set i (some v)) H := rfl
theorem w_gnil {R : L2.St → Hp → Prop} : gNil [] σ H R = R σ H := by
  unfold gNil
  simp
theorem w_gcons {r : List V} {R : L2.St → Hp → Prop} : gCons g gs (v :: r) σ H R = g v σ H fun σ' H' => gs r σ' H' R := by
  unfold gCons
  apply propext
  constructor
  · rintro ⟨a, b, h1, h2⟩
    cases h1
    exact h2
  · exact fun h => ⟨_, _, rfl, h⟩
theorem w_gsub {s : TSet} {R : L2.St → Hp → Prop} : gSub to ti s v σ H R = to σ H fun o H1 => ti σ H1 fun i H2 => s o i v H2 fun H3 => R σ H3 := rfl
theorem w_op : tOp r ta tb σ H Q = ta σ H fun x H1 => tb σ H1 fun y H2 => r x y H2 Q := rfl
theorem w_un {k : V → Hp → VK → Prop} : tUn k ta σ H Q = ta σ H fun x H1 => k x H1 Q := rfl
theorem w_test : tTest te σ H Qb = te σ H fun x H' => ∃ k, x = .bl k ∧ Qb k H' := rfl
theorem w_b : tB te σ H Qb = te σ H fun x H' => ∃ k, x = .bl k ∧ Qb k H' := rfl
theorem w_and : tAnd c d σ H Qb = c σ H fun k H1 => if k = true then d σ H1 Qb else Qb false H1 := rfl
theorem w_or : tOr c d σ H Qb = c σ H fun k H1 => if k = true then Qb true H1 else d σ H1 Qb := rfl
theorem w_not : tNot c σ H Qb = c σ H fun k H1 => Qb (!k) H1 := rfl
theorem w_andV : tAndV ta tb σ H Q = ta σ H fun x H1 => ∃ k, x = .bl k ∧ if k = true then tb σ H1 Q else Q (.bl false) H1 := rfl
theorem w_orV : tOrV ta tb σ H Q = ta σ H fun x H1 => ∃ k, x = .bl k ∧ if k = true then Q (.bl true) H1 else tb σ H1 Q := rfl
theorem w_notV : tNotV ta σ H Q = ta σ H fun x H1 => ∃ k, x = .bl k ∧ Q (.bl (!k)) H1 := rfl
theorem w_if : tIf c ta tb σ H Q = c σ H fun k H1 => if k = true then ta σ H1 Q else tb σ H1 Q := rfl
theorem w_chain : tChain r r' ta tb tc σ H Q = ta σ H fun x H1 => tb σ H1 fun y H2 => r x y H2 fun z H3 => ∃ k, z = .bl k ∧ (if k = true then tc σ H3 fun w' H4 => r' y w' H4 Q else Q (.bl false) H3) := rfl
theorem w_nil : tNil σ H Qa = Qa [] H := rfl
theorem w_cons : tCons ta as σ H Qa = ta σ H fun x H1 => as σ H1 fun xs H2 => Qa (x :: xs) H2 := rfl
theorem w_tup : tTup as σ H Q = as σ H fun xs H1 => xs.length ≤ 16777216 ∧ New H1 (.tup xs) Q .mk := rfl
theorem w_lst : tLst as σ H Q = as σ H fun xs H1 => xs.length ≤ 16777216 ∧ New H1 (.lst xs) Q .mk := rfl
theorem w_cb {k : RC} : tCB k as σ H Q = as σ H fun vs H1 => k vs H1 Q := rfl
theorem w_call {sp : Sp} {dvs : List V} {E : XK} : tCall sp dvs E as σ H Q = as σ H fun vs H1 => CallSp sp (vs ++ dvs) H1 Q .mk E := rfl
theorem w_part {Qo : Option Int → Hp → Prop} : tPart te σ H Qo = te σ H fun x H1 => ∃ i, x = .int i ∧ Qo (some i) H1 := rfl
theorem w_nopart {Qo : Option Int → Hp → Prop} : tNoPart σ H Qo = Qo none H := rfl
theorem w_sl {k : V → Option Int → Option Int → Hp → VK → Prop} {a b : TO} : tSl k te a b σ H Q = te σ H fun x H1 => a σ H1 fun l H2 => b σ H2 fun u H3 => k x l u H3 Q := rfl
theorem w_lm0 {k : V → List V → Hp → VK → Prop} : tLM0 k to σ H Q = to σ H fun x H1 => isL x H1 ∧ k x [] H1 Q := rfl
theorem w_lm {k : V → List V → Hp → VK → Prop} : tLM k to as σ H Q = to σ H fun x H1 => isL x H1 ∧ as σ H1 fun xs H2 => k x xs H2 Q := rfl
theorem w_m0 {k : V → List V → Hp → VK → Prop} : tM0 k to σ H Q = to σ H fun x H1 => (∃ a, x = .str a) ∧ k x [] H1 Q := rfl
theorem w_m1 {k : V → List V → Hp → VK → Prop} : tM1 k to te σ H Q = to σ H fun x H1 => (∃ a, x = .str a) ∧ te σ H1 fun y H2 => k x [y] H2 Q := rfl
def fmtO (x : V) (H1 : Hp) (Q : VK) : Prop := (∃ y : Str, x = .str y ∧ y.length ≤ sizeLine ∧ Q (.str y) H1) ∨ ∃ i : Int, x = .int i ∧ i.natAbs.log2 < 1920 ∧ Q (.str (toString i)) H1
theorem w_fmt : tFmt te σ H Q = te σ H fun x H1 => fmtO x H1 Q := rfl
theorem f_fmt1 {y : Str} : fmtO (.str y) H Q = (y.length ≤ 16777216 ∧ Q (.str y) H) := by
  unfold fmtO
  simp [sizeLine]
theorem f_fmt2 {i : Int} : fmtO (.int i) H Q = (i.natAbs.log2 < 1920 ∧ Q (.str (toString i)) H) := by
  unfold fmtO
  simp
def jsO (x : V) (ts : List TE) (acc : Str) (σ : L2.St) (H1 : Hp) (R : Str → Hp → Prop) : Prop := ∃ y : Str, x = .str y ∧ (acc ++ y).length ≤ sizeLine ∧ tJs ts (acc ++ y) σ H1 R
theorem w_js0 {acc : Str} {R : Str → Hp → Prop} : tJs [] acc σ H R = R acc H := rfl
theorem w_js {ts : List TE} {acc : Str} {R : Str → Hp → Prop} : tJs (te :: ts) acc σ H R = te σ H fun x H1 => jsO x ts acc σ H1 R := rfl
theorem f_js {y : Str} {ts : List TE} {acc : Str} {R : Str → Hp → Prop} : jsO (.str y) ts acc σ H R = ((acc ++ y).length ≤ 16777216 ∧ tJs ts (acc ++ y) σ H R) := by
  unfold jsO
  simp [sizeLine]
theorem emptyS : Str.empty = sL [] := rfl
theorem w_yes : tYes σ H Qb = Qb true H := rfl
theorem w_isN : rIsN v x H Q = (x = .non ∧ Q (.bl (decide (v = .non))) H) := rfl
theorem w_notN : rNotN v x H Q = (x = .non ∧ Q (.bl (!decide (v = .non))) H) := rfl
theorem w_isB : rIsB v x H Q = ∃ a b : Bool, v = .bl a ∧ x = .bl b ∧ Q (.bl (decide (a = b))) H := rfl
theorem w_notB : rNotB v x H Q = ∃ a b : Bool, v = .bl a ∧ x = .bl b ∧ Q (.bl (!decide (a = b))) H := rfl
theorem w_rU {k : Int → V} {i : Int} : rU k (.int i) H Q = Q (k i) H := by
  unfold rU
  simp

/-! ### loops -/
/-- what a for asks once its iterator has come -/
def Lp (J : It) (g : TG) (tb : TS) (D : Ends) (_ : Seal g) (_ : Seal tb) (_ : Seal D) (σ : L2.St) (H1 : Hp) : Prop := ∃ W : Nat → Nat → L2.St → Hp → Prop, (∃ m, W 0 m σ H1) ∧ ∀ i m σ H, W i m σ H →
  (J.stop i H ∧ D.nx σ H) ∨ (J.go i H ∧ ∃ N : L2.St → Hp → Prop, (∀ σ' H', N σ' H' → ∃ m', m' < m ∧ W (i + 1) m' σ' H') ∧ ∀ x H', J.yld i H x H' → g x σ H' fun σ2 H2 => tb { D with nx := N, ct := N, bk := D.nx } σ2 H2)
theorem w_for {wi : TI} : tFor wi g t D σ H = wi σ H fun J H1 => Lp J g t D .mk .mk .mk σ H1 := rfl
def rng1O (vs : List V) (H1 : Hp) (R : It → Hp → Prop) : Prop := ∃ j : Int, vs = [.int j] ∧ -(2 ^ 62) ≤ j ∧ j < 2 ^ 62 ∧ R (Itr 0 j.toNat) H1
def rng2O (vs : List V) (H1 : Hp) (R : It → Hp → Prop) : Prop := ∃ i j : Int, vs = [.int i, .int j] ∧ (-(2 ^ 62) ≤ i ∧ i < 2 ^ 62 ∧ -(2 ^ 62) ≤ j ∧ j < 2 ^ 62) ∧ R (Itr i (j - i).toNat) H1
theorem w_rng1 {R : It → Hp → Prop} : iRng1 as σ H R = as σ H fun vs H1 => rng1O vs H1 R := rfl
theorem w_rng2 {R : It → Hp → Prop} : iRng2 as σ H R = as σ H fun vs H1 => rng2O vs H1 R := rfl
theorem f_rng1 {j : Int} {R : It → Hp → Prop} : rng1O [.int j] H R = (-(2 ^ 62) ≤ j ∧ j < 2 ^ 62 ∧ R (Itr 0 j.toNat) H) := by
  unfold rng1O
  simp
theorem f_rng2 {i j : Int} {R : It → Hp → Prop} : rng2O [.int i, .int j] H R = ((-(2 ^ 62) ≤ i ∧ i < 2 ^ 62 ∧ -(2 ^ 62) ≤ j ∧ j < 2 ^ 62) ∧ R (Itr i (j - i).toNat) H) := by
  unfold rng2O
  apply propext
  constructor
  · rintro ⟨a, b, h1, h2⟩
    cases h1
    exact h2
  · exact fun h => ⟨i, j, rfl, h⟩
theorem w_ilist {K : PySem.W.Frag} {R : It → Hp → Prop} : iList K te σ H R = te σ H fun x H1 => ∃ a, x = .ref a ∧ (∃ xs, SqL K H1 a xs) ∧ R (Itl K a) H1 := rfl
theorem w_itup {K : PySem.W.Frag} {R : It → Hp → Prop} : iTup K te σ H R = te σ H fun x H1 => ∃ a, x = .ref a ∧ (∃ xs, SqT K H1 a xs) ∧ R (Itt K a) H1 := rfl
theorem w_istr {R : It → Hp → Prop} : iStr te σ H R = te σ H fun v H1 => ∃ x, v = .str x ∧ R (Its x) H1 := rfl
/-- an invariant as it stands -/
def Hd (P : L2.St → Hp → Prop) (_ : Seal P) (σ : L2.St) (H : Hp) : Prop := P σ H
/-- by an invariant over the turn, the slots and the heap -/
theorem lp_range {lo : Int} {n : Nat} (Pv : Nat → L2.St → Hp → Prop) (h0 : Pv 0 σ H) (hs : ∀ i σ H, i < n → Pv i σ H → g (.int (lo + i)) σ H fun σ2 H2 => t { D with nx := Hd (Pv (i + 1)) .mk, ct := Hd (Pv (i + 1)) .mk, bk := D.nx } σ2 H2)
    (hd : ∀ σ H, Pv n σ H → D.nx σ H) : Lp (Itr lo n) g t D .mk .mk .mk σ H := for_range Pv h0 hs hd
theorem lp_list {K : PySem.W.Frag} {a : Addr} (xs : List V) (Pv : Nat → L2.St → Hp → Prop) (h0 : Pv 0 σ H) (hl : ∀ i σ H, i ≤ xs.length → Pv i σ H → H a = some (.lst xs))
    (hs : ∀ i x σ H, xs[i]? = some x → Pv i σ H → g x σ H fun σ2 H2 => t { D with nx := Hd (Pv (i + 1)) .mk, ct := Hd (Pv (i + 1)) .mk, bk := D.nx } σ2 H2) (hd : ∀ σ H, Pv xs.length σ H → D.nx σ H) : Lp (Itl K a) g t D .mk .mk .mk σ H :=
  for_list Pv h0 (fun i σ H hi p => SqL.of (hl i σ H hi p)) hs hd
theorem lp_tup {K : PySem.W.Frag} {a : Addr} (xs : List V) (Pv : Nat → L2.St → Hp → Prop) (h0 : Pv 0 σ H) (hl : ∀ i σ H, i ≤ xs.length → Pv i σ H → H a = some (.tup xs))
    (hs : ∀ i x σ H, xs[i]? = some x → Pv i σ H → g x σ H fun σ2 H2 => t { D with nx := Hd (Pv (i + 1)) .mk, ct := Hd (Pv (i + 1)) .mk, bk := D.nx } σ2 H2) (hd : ∀ σ H, Pv xs.length σ H → D.nx σ H) : Lp (Itt K a) g t D .mk .mk .mk σ H :=
  for_tup Pv h0 (fun i σ H hi p => SqT.of (hl i σ H hi p)) hs hd
theorem lp_str (l : List Nat) (Pv : Nat → L2.St → Hp → Prop) (h0 : Pv 0 σ H) (hs : ∀ i c σ H, l[i]? = some c → Pv i σ H → g (.str (sL [c])) σ H fun σ2 H2 => t { D with nx := Hd (Pv (i + 1)) .mk, ct := Hd (Pv (i + 1)) .mk, bk := D.nx } σ2 H2)
    (hd : ∀ σ H, Pv l.length σ H → D.nx σ H) : Lp (Its (sL l)) g t D .mk .mk .mk σ H := by
  refine for_it (walk_str (z := sL l)) Pv h0 (fun _ _ _ _ _ => trivial) ?_ (fun σ H p => hd σ H (by simpa using p))
  rintro i x σ H H' hi p ⟨rfl, c, hc, rfl⟩
  exact hs i c σ _ (by simpa using hc) p

/-- what a comprehension asks once its iterator has come; D the new list -/
def LpC (J : It) (g : TG) (tt : TT) (te : TE) (_ : Seal g) (_ : Seal tt) (_ : Seal te) (vs : List Nat) (σw : L2.St) (D : Addr) (H1 : Hp) (Q : VK) (_ : Seal Q) : Prop := ∃ W : Nat → Nat → Hp → Prop, (∃ m, W 0 m (upd H1 D (.lst []))) ∧ ∀ i m H, W i m H →
  (J.stop i H ∧ Q (.ref D) H) ∨ (J.go i H ∧ ∃ Nx : Hp → Prop, (∀ H', Nx H' → ∃ m', m' < m ∧ W (i + 1) m' H') ∧ ∀ x H', J.yld i H x H' → g x σw H' fun σ2 H2 => wipe σ2 vs = σw ∧ tt σ2 H2 fun b H3 =>
    if b = true then te σ2 H3 fun y H4 => ∃ acc, H4 D = some (.lst acc) ∧ acc.length < sizeLine ∧ Nx (upd H4 D (.lst (acc ++ [y]))) else Nx H3)
theorem w_lc {wi : TI} {vs : List Nat} : tLc wi g c te vs σ H Q = wi σ H fun J H1 => ∀ D, H1 D = none → LpC J g c te .mk .mk .mk vs (wipe σ vs) D H1 Q .mk := rfl
theorem w_wipe0 : wipe σ [] = σ := rfl
theorem w_wipe {v : Nat} {vs : List Nat} : wipe σ (v :: vs) = (wipe σ vs).set v none := rfl
/-- a comprehension by any walk: R what holds of the heap ahead of turn i besides the new list, acc what that list holds then -/
theorem lpc_it {J : It} {n : Nat} {G : Hp → Prop} {Y : Nat → Hp → V → Hp → Prop} (w : Walk J n G Y) {vs : List Nat} {D : Addr} {H1 : Hp} {σw : L2.St} (hw : σw = wipe σw vs) (hD : H1 D = none) (R : Nat → Hp → Prop) (acc : Nat → List V) (hacc : ∀ i, i ≤ n → (acc i).length ≤ i) (hn : n ≤ 16777216) (h0 : acc 0 = [])
    (hR0 : R 0 (upd H1 D (.lst []))) (hG : ∀ i H, i ≤ n → R i H → G H)
    (hs : ∀ i x H H' (N : VK) (M : Hp → Prop), i < n → R i H → H D = some (.lst (acc i)) → Y i H x H' →
      (∀ y H4, H4 D = some (.lst (acc i)) → acc (i + 1) = acc i ++ [y] → R (i + 1) (upd H4 D (.lst (acc (i + 1)))) → N y H4) → (∀ H4, H4 D = some (.lst (acc i)) → acc (i + 1) = acc i → R (i + 1) H4 → M H4) →
      g x σw H' fun σ2 H2 => wipe σ2 vs = σw ∧ c σ2 H2 fun b H3 => if b = true then te σ2 H3 N else M H3)
    (hd : ∀ H, R n H → H D = some (.lst (acc n)) → Q (.ref D) H) : LpC J g c te .mk .mk .mk vs σw D H1 Q .mk := by
  obtain ⟨σ0, h00⟩ : ∃ σ0, σw = wipe σ0 vs := ⟨σw, hw⟩
  clear hw
  subst h00
  refine lc_it w (fun i H => i ≤ n ∧ R i H ∧ H D = some (.lst (acc i))) ⟨Nat.zero_le _, hR0, by rw [upd_same, h0]⟩ (fun i H hi p => hG i H hi p.2.1) ?_ (fun H p => hd H p.2.1 p.2.2)
  rintro i x H H' hi ⟨_, p1, p2⟩ y
  refine hs i x H H' _ _ hi p1 p2 y (fun y H4 e1 e2 e3 => ⟨acc i, e1, ?_, by omega, ?_, ?_⟩) (fun H4 e1 e2 e3 => ⟨by omega, e3, by rw [e2]; exact e1⟩)
  · have := hacc i (by omega)
    show _ < 2 ^ 24
    omega
  · rw [← e2]
    exact e3
  · rw [e2]
    exact upd_same
end
/-- a new object: the heap behind it by a letter -/
theorem w_new {H : Hp} {o : HO} {R : V → Hp → Prop} (h : ∀ p H', H p = none → Same H H' → H' p = some o → R (.ref p) H') : ∀ p, H p = none → R (.ref p) (upd H p o) := fun p hp => h p _ hp (sm_new hp) upd_same
/-- an object changed: the heap behind it by a letter -/
theorem w_put {H : Hp} {p : Addr} {o : HO} {R : Hp → Prop} (h : ∀ H', H' p = some o → (∀ q, q ≠ p → H' q = H q) → R H') : R (upd H p o) := h _ upd_same fun _ n => upd_ne n
theorem upd_get {H : Hp} {a b : Addr} {o : HO} : upd H a o b = if b = a then some o else H b := rfl
section
variable {σ : L2.St} {H : Hp} {Q : VK} {c : TT} {te : TE} {g : TG}
theorem take_fm {α β : Type} (f : α → Option β) {items : List α} {i : Nat} {a : α} (h : items[i]? = some a) : (items.take (i + 1)).filterMap f = (items.take i).filterMap f ++ (f a).toList := by
  rw [List.take_add_one, h, List.filterMap_append]
  cases e : f a <;> simp [e]
/-- a comprehension whose items are told by f (none: left out) -/
theorem lpc_gen {α : Type} {J : It} {G : Hp → Prop} {items : List α} {emb : α → V} (w : Walk J items.length G (fun i H x H' => H' = H ∧ ∃ a, items[i]? = some a ∧ x = emb a)) {vs : List Nat} {D : Addr} {H1 : Hp} {σw : L2.St} (hw : σw = wipe σw vs) (hD : H1 D = none) (hn : items.length ≤ 16777216)
    (f : α → Option V) (R : Hp → Prop) (hR0 : R H1) (hRD : ∀ H o, R H → R (upd H D o)) (hG : ∀ H, R H → G H)
    (hs : ∀ a H (N : VK) (M : Hp → Prop), a ∈ items → R H → (∃ acc, H D = some (.lst acc) ∧ (∀ v H4, f a = some v → R H4 → H4 D = some (.lst acc) → N v H4) ∧ (∀ H4, f a = none → R H4 → H4 D = some (.lst acc) → M H4)) →
      g (emb a) σw H fun σ2 H2 => wipe σ2 vs = σw ∧ c σ2 H2 fun b H3 => if b = true then te σ2 H3 N else M H3)
    (hd : ∀ H, R H → H D = some (.lst (items.filterMap f)) → Q (.ref D) H) : LpC J g c te .mk .mk .mk vs σw D H1 Q .mk := by
  refine lpc_it w hw hD (fun _ H => R H) (fun i => (items.take i).filterMap f) (fun i hi => ?_) hn rfl (hRD _ _ hR0) (fun i H hi p => hG H p) ?_ (fun H p q => hd H p (by rw [q, List.take_length]))
  · exact Nat.le_trans (List.length_filterMap_le _ _) (by rw [List.length_take]; omega)
  · rintro i x H H' N M hi p q ⟨rfl, a, ha, rfl⟩ hN hM
    refine hs a H' N M (List.mem_of_getElem? ha) p ⟨_, q, fun v H4 e1 e2 e3 => hN v H4 e3 ?_ (hRD _ _ e2), fun H4 e1 e2 e3 => hM H4 e3 ?_ e2⟩
    · rw [take_fm f ha, e1]
      rfl
    · rw [take_fm f ha, e1]
      simp
theorem walkS (l : List Nat) : Walk (Its (sL l)) l.length (fun _ => True) (fun i H x H' => H' = H ∧ ∃ a, l[i]? = some a ∧ x = V.str (sL [a])) := by
  have w := walk_str (z := sL l)
  have e : (sL l).cps.size = l.length := by simp
  rw [e] at w
  refine w.mono (fun _ h => h) fun i H x H' hi _ y => ?_
  obtain ⟨h1, a, h2, h3⟩ := y
  exact ⟨h1, a, by simpa using h2, h3⟩
theorem walkR (lo : Int) (n : Nat) : Walk (Itr lo n) (List.range n).length (fun _ => True) (fun i H x H' => H' = H ∧ ∃ a, (List.range n)[i]? = some a ∧ x = V.int (lo + a)) := by
  have w := walk_range (lo := lo) (n := n)
  rw [List.length_range]
  refine w.mono (fun _ h => h) fun i H x H' hi _ y => ?_
  exact ⟨y.1, i, by simp [hi], y.2⟩
theorem walkL {K : PySem.W.Frag} {a : Addr} (xs : List V) : Walk (Itl K a) xs.length (fun H => H a = some (.lst xs)) (fun i H x H' => H' = H ∧ ∃ b, xs[i]? = some b ∧ x = b) := by
  refine (walk_list (K := K) (a := a) (xs := xs)).mono (fun H h => SqL.of h) fun i H x H' hi _ y => ?_
  exact ⟨y.1, x, y.2, rfl⟩
end

/-! ### the readings by values, case by case -/
section
variable {H : Hp} {Q : VK} {p q : Addr} {i j : Int} {a b z : Str} {x y v : V} {k m : Bool}
theorem f_add1 : rAddF (.int i) (.int j) H Q = Q (.int (i + j)) H := rfl
theorem f_add2 : rAddF (.str a) (.str b) H Q = (a.length + b.length ≤ 16777216 ∧ Q (.str (a ++ b)) H) := rfl
theorem f_add3 : rAddF (.ref p) (.ref q) H Q = addO (H p) (H q) H Q := rfl
theorem f_addO {xs ys : List V} : addO (some (.lst xs)) (some (.lst ys)) H Q = (xs.length + ys.length ≤ 16777216 ∧ New H (.lst (xs ++ ys)) Q .mk) := rfl
theorem f_iadd1 : rIaddF (.int i) (.int j) H Q = Q (.int (i + j)) H := rfl
theorem f_iadd2 : rIaddF (.str a) (.str b) H Q = (a.length + b.length ≤ 16777216 ∧ Q (.str (a ++ b)) H) := rfl
theorem f_sub : rSubF (.int i) (.int j) H Q = Q (.int (i - j)) H := rfl
theorem f_mul1 : rMulF (.int i) (.int j) H Q = (CMul i j ∧ Q (.int (i * j)) H) := rfl
theorem f_mul2 : rMulF (.str a) (.int j) H Q = (0 ≤ j ∧ a.length * j.toNat ≤ 16777216 ∧ j ≤ 16777216 ∧ Q (.str (sL (repL (tl a) j.toNat))) H) := rfl
theorem f_mul3 : rMulF (.ref p) (.int j) H Q = mulO (H p) j H Q := rfl
theorem f_mulO {xs : List V} : mulO (some (.lst xs)) j H Q = (-(2 ^ 63) ≤ j ∧ j < 2 ^ 63 ∧ xs.length * j.toNat ≤ 16777216 ∧ New H (.lst (List.replicate j.toNat xs).flatten) Q .mk) := rfl
theorem f_fdiv : rFdivF (.int i) (.int j) H Q = (CDiv i j ∧ Q (.int (i / j)) H) := rfl
theorem f_mod : rModF (.int i) (.int j) H Q = (0 < j ∧ Q (.int (i % j)) H) := rfl
theorem f_pow : rPowF (.int i) (.int j) H Q = (CPow i j ∧ Q (.int (i ^ j.toNat)) H) := rfl
theorem f_lt : rLtF (.int i) (.int j) H Q = Q (.bl (decide (i < j))) H := rfl
theorem f_le : rLeF (.int i) (.int j) H Q = Q (.bl (decide (i ≤ j))) H := rfl
theorem f_gt : rGtF (.int i) (.int j) H Q = Q (.bl (decide (j < i))) H := rfl
theorem f_ge : rGeF (.int i) (.int j) H Q = Q (.bl (decide (j ≤ i))) H := rfl
theorem f_eq1 : rEqF (.int i) (.int j) H Q = Q (.bl (decide (i = j))) H := rfl
theorem f_eq2 : rEqF (.str a) (.str b) H Q = Q (.bl (decide (a = b))) H := rfl
theorem f_eq3 : rEqF (.bl k) (.bl m) H Q = Q (.bl (decide (k = m))) H := rfl
theorem f_eq4 : rEqF .non .non H Q = Q (.bl true) H := rfl
theorem f_eq5 : rEqF .non (.int i) H Q = Q (.bl false) H := rfl
theorem f_eq6 : rEqF .non (.str a) H Q = Q (.bl false) H := rfl
theorem f_eq7 : rEqF (.int i) (.str a) H Q = Q (.bl false) H := rfl
theorem f_eq8 : rEqF (.str a) (.int i) H Q = Q (.bl false) H := rfl
theorem f_eq9 : rEqF (.int i) .non H Q = Q (.bl false) H := rfl
theorem f_eq10 : rEqF (.str a) .non H Q = Q (.bl false) H := rfl
theorem f_ne1 : rNeF (.int i) (.int j) H Q = Q (.bl (!decide (i = j))) H := by simp [rNeF, rEqF]
theorem f_ne2 : rNeF (.str a) (.str b) H Q = Q (.bl (!decide (a = b))) H := by simp [rNeF, rEqF]
theorem f_ne3 : rNeF (.bl k) (.bl m) H Q = Q (.bl (!decide (k = m))) H := by simp [rNeF, rEqF]
theorem f_ne4 : rNeF .non .non H Q = Q (.bl false) H := by simp [rNeF, rEqF]
theorem f_ne5 : rNeF .non (.int i) H Q = Q (.bl true) H := by simp [rNeF, rEqF]
theorem f_ne6 : rNeF .non (.str a) H Q = Q (.bl true) H := by simp [rNeF, rEqF]
theorem f_in {n : Nat} : rInF (.str (sL [n])) (.str z) H Q = Q (.bl (decide (n ∈ z.cps.toList))) H := by
  unfold rInF
  simp
theorem f_notIn {n : Nat} : rNotInF (.str (sL [n])) (.str z) H Q = Q (.bl (!decide (n ∈ z.cps.toList))) H := by
  unfold rNotInF
  simp
theorem f_ix1 : rIxF (.ref p) (.int i) H Q = atO (H p) i H Q := rfl
theorem f_ix2 : rIxF (.str z) (.int i) H Q = (z.length ≤ 16777216 ∧ (match atI z.cps.toList i with | some c => Q (.str (sL [c])) H | none => False)) := rfl
theorem f_at1 {xs : List V} : atO (some (.lst xs)) i H Q = (match atI xs i with | some v => Q v H | none => False) := rfl
theorem f_at2 {xs : List V} : atO (some (.tup xs)) i H Q = (match atI xs i with | some v => Q v H | none => False) := rfl
theorem f_sl1 {lo hi : Option Int} : rSlF (.ref p) lo hi H Q = slO (H p) lo hi H Q := rfl
theorem f_slO {xs : List V} {lo hi : Option Int} : slO (some (.lst xs)) lo hi H Q = New H (.lst (cutV xs lo hi)) Q .mk := rfl
theorem f_sl2 {lo hi : Option Int} : rSlF (.str z) lo hi H Q = (z.length ≤ 16777216 ∧ Q (.str (cutS z lo hi)) H) := rfl
def setO (o : Option HO) (p : Addr) (i : Int) (v : V) (H : Hp) (R : Hp → Prop) : Prop := match o with
  | some (.lst xs) => (match ixN xs.length i with | some j => R (upd H p (.lst (xs.set j v))) | none => False)
  | _ => False
theorem f_set {R : Hp → Prop} : rSetF (.ref p) (.int i) v H R = setO (H p) p i v H R := rfl
theorem f_setO {xs : List V} {R : Hp → Prop} : setO (some (.lst xs)) p i v H R = (match ixN xs.length i with | some j => R (upd H p (.lst (xs.set j v))) | none => False) := rfl
theorem f_len1 : rLenF [.str z] H Q = (z.length ≤ 16777216 ∧ Q (.int (z.length : Int)) H) := rfl
theorem f_len2 : rLenF [.ref p] H Q = lenO (H p) H Q := rfl
theorem f_lenO1 {xs : List V} : lenO (some (.lst xs)) H Q = Q (.int (xs.length : Int)) H := rfl
theorem f_lenO2 {xs : List V} : lenO (some (.tup xs)) H Q = Q (.int (xs.length : Int)) H := rfl
theorem f_abs : rAbsF [.int i] H Q = Q (.int (if i < 0 then -i else i)) H := rfl
theorem f_max1 : rMaxF [.int i, .int j] H Q = Q (.int (if j > i then j else i)) H := rfl
theorem f_max2 : rMaxF [.ref p] H Q = maxO (H p) H Q := rfl
theorem f_min1 : rMinF [.int i, .int j] H Q = Q (.int (if j < i then j else i)) H := rfl
theorem f_min2 : rMinF [.ref p] H Q = minO (H p) H Q := rfl
theorem f_maxO {ns : List Int} : maxO (some (.lst (ns.map V.int))) H Q = (0 < ns.length ∧ ∀ m, m ∈ ns → (∀ y, y ∈ ns → y ≤ m) → Q (.int m) H) := by
  unfold maxO
  simp only [asInts_map]
theorem f_minO {ns : List Int} : minO (some (.lst (ns.map V.int))) H Q = (0 < ns.length ∧ ∀ m, m ∈ ns → (∀ y, y ∈ ns → m ≤ y) → Q (.int m) H) := by
  unfold minO
  simp only [asInts_map]
theorem f_int1 : rIntF [.int i] H Q = Q (.int i) H := rfl
theorem f_int2 : rIntF [.bl k] H Q = Q (.int (if k then 1 else 0)) H := rfl
theorem f_int3 : rIntF [.str a] H Q = (match PySem.intText? a with | some n => a.length ≤ 640 ∧ Q (.int n) H | none => False) := rfl
theorem f_str : rStrF [.int i] H Q = (i.natAbs.log2 < 1920 ∧ Q (.str (toString i)) H) := rfl
theorem f_list : rListF [.ref p] H Q = listO (H p) H Q := rfl
theorem f_listO1 {xs : List V} : listO (some (.lst xs)) H Q = New H (.lst xs) Q .mk := rfl
theorem f_listO2 {xs : List V} : listO (some (.tup xs)) H Q = New H (.lst xs) Q .mk := rfl
theorem f_tup : rTupF [.ref p] H Q = tupO p (H p) H Q := rfl
theorem f_tupO1 {xs : List V} : tupO p (some (.lst xs)) H Q = New H (.tup xs) Q .mk := rfl
theorem f_tupO2 {xs : List V} : tupO p (some (.tup xs)) H Q = Q (.ref p) H := rfl
theorem f_sum : rSumF [.ref p] H Q = sumO (H p) H Q := rfl
theorem f_sumO {ns : List Int} : sumO (some (.lst (ns.map V.int))) H Q = Q (.int ns.sum) H := by
  unfold sumO
  simp only [asInts_map]
theorem f_all : rAllF [.ref p] H Q = allO (H p) H Q := rfl
theorem f_allO {ns : List Bool} : allO (some (.lst (ns.map V.bl))) H Q = Q (.bl (ns.all id)) H := by
  unfold allO
  simp only [asBools_map]
theorem f_isi {T : String} : rIsiF [x, .ty T] H Q = (match tyF x H with | some U => okTy T = true ∧ Q (.bl (subTy U T)) H | none => False) := rfl
def tyO (o : Option HO) : Option String := match o with
  | some (.lst _) => some "list"
  | some (.tup _) => some "tuple"
  | some (.dK _) => some "dict"
  | some (.dT _) => some "dict"
  | _ => none
theorem f_ty1 : tyF .non H = some "NoneType" := rfl
theorem f_ty2 : tyF (.bl k) H = some "bool" := rfl
theorem f_ty3 : tyF (.int i) H = some "int" := rfl
theorem f_ty4 : tyF (.str a) H = some "str" := rfl
theorem f_ty5 : tyF (.ref p) H = tyO (H p) := rfl
theorem f_tyO1 {xs : List V} : tyO (some (.lst xs)) = some "list" := rfl
theorem f_tyO2 {xs : List V} : tyO (some (.tup xs)) = some "tuple" := rfl
def isLO (o : Option HO) : Prop := match o with | some (.lst _) => True | _ => False
theorem f_isL : isL (.ref p) H = isLO (H p) := rfl
theorem f_isLO {xs : List V} : isLO (some (.lst xs)) = True := rfl
def appO (o : Option HO) (l : Addr) (y : V) (H : Hp) (Q : VK) : Prop := match o with | some (.lst xs) => xs.length < 16777216 ∧ Q .non (upd H l (.lst (xs ++ [y]))) | _ => False
theorem f_app : rAppF (.ref p) [y] H Q = appO (H p) p y H Q := rfl
theorem f_appO {xs : List V} : appO (some (.lst xs)) p y H Q = (xs.length < 16777216 ∧ Q .non (upd H p (.lst (xs ++ [y])))) := rfl
def popO (o : Option HO) (l : Addr) (H : Hp) (Q : VK) : Prop := match o with | some (.lst xs) => (match xs[xs.length - 1]? with | some y => Q y (upd H l (.lst xs.dropLast)) | none => False) | _ => False
def popAtO (o : Option HO) (l : Addr) (i : Int) (H : Hp) (Q : VK) : Prop := match o with | some (.lst xs) => 0 ≤ i ∧ (match xs[i.toNat]? with | some y => i < 16777216 ∧ Q y (upd H l (.lst (xs.eraseIdx i.toNat))) | none => False) | _ => False
theorem f_pop1 : rPopF (.ref p) [] H Q = popO (H p) p H Q := rfl
theorem f_pop2 : rPopF (.ref p) [.int i] H Q = popAtO (H p) p i H Q := rfl
theorem f_popO {xs : List V} : popO (some (.lst xs)) p H Q = (match xs[xs.length - 1]? with | some y => Q y (upd H p (.lst xs.dropLast)) | none => False) := rfl
theorem f_popAtO {xs : List V} : popAtO (some (.lst xs)) p i H Q = (0 ≤ i ∧ (match xs[i.toNat]? with | some y => i < 16777216 ∧ Q y (upd H p (.lst (xs.eraseIdx i.toNat))) | none => False)) := rfl
def clearO (o : Option HO) (l : Addr) (H : Hp) (Q : VK) : Prop := match o with | some (.lst _) => Q .non (upd H l (.lst [])) | _ => False
theorem f_clear : rClearF (.ref p) [] H Q = clearO (H p) p H Q := rfl
theorem f_clearO {xs : List V} : clearO (some (.lst xs)) p H Q = Q .non (upd H p (.lst [])) := rfl
def extO (o u : Option HO) (l : Addr) (H : Hp) (Q : VK) : Prop := match o, u with | some (.lst xs), some (.lst zs) => xs.length + zs.length ≤ 16777216 ∧ Q .non (upd H l (.lst (xs ++ zs))) | _, _ => False
theorem f_ext : rExtF (.ref p) [.ref q] H Q = extO (H p) (H q) p H Q := rfl
theorem f_extO {xs zs : List V} : extO (some (.lst xs)) (some (.lst zs)) p H Q = (xs.length + zs.length ≤ 16777216 ∧ Q .non (upd H p (.lst (xs ++ zs)))) := rfl
theorem f_join : rJoinF (.str a) [.ref p] H Q = joinO a (H p) H Q := rfl
theorem f_joinO {ws : List (List Nat)} : joinO a (some (.lst (ws.map fun l => V.str (sL l)))) H Q = ((ws.map (·.length)).sum + ws.length * a.length ≤ 16777216 ∧ Q (.str (sL (TL.joinL (tl a) ws))) H) := by
  unfold joinO
  simp only [asCodes_map]
theorem f_split {n : Nat} : rSplitF (.str a) [.str (sL [n])] H Q = (n < 256 ∧ a.length ≤ 16777214 ∧ New H (.lst ((splitL n (tl a)).map fun l => V.str (sL l))) Q .mk) := by
  unfold rSplitF
  apply propext
  constructor
  · rintro ⟨c, h1, h2⟩
    have e := sL_inj h1
    cases e
    exact h2
  · intro h
    exact ⟨n, rfl, h⟩
theorem tl_s (l : List Nat) : tl (sL l) = l := rfl
theorem cps_s (l : List Nat) : (sL l).cps.toList = l := rfl
end
end CM

/-! trips and their texts, plain -/
namespace CM
open PySem L2
def digB (c : Nat) : Bool := decide (48 ≤ c) && decide (c ≤ 57)
theorem digB_iff {c : Nat} : digB c = true ↔ 48 ≤ c ∧ c ≤ 57 := by simp [digB]
def Trip (l : List Nat) : Prop := l.length ≤ 2000 ∧ ∀ c ∈ l, digB c = true
def tenD : List Nat := [48, 49, 50, 51, 52, 53, 54, 55, 56, 57]
theorem mem_ten {c : Nat} : c ∈ tenD ↔ 48 ≤ c ∧ c ≤ 57 := by
  unfold tenD
  simp only [List.mem_cons, List.not_mem_nil, or_false]
  omega
theorem dec_ten (c : Nat) : decide (c ∈ tenD) = digB c := by
  rw [Bool.eq_iff_iff, decide_eq_true_eq, mem_ten, digB_iff]

/-! ### places from the end -/
theorem at_last {α : Type} (l : List α) : atI l (-1) = l[l.length - 1]? := by
  unfold atI ixN
  by_cases h : l = []
  · subst h
    rfl
  · have h1 : 0 < l.length := List.length_pos_iff.mpr h
    rw [if_neg (by omega), if_pos (by omega)]
    show l[(-1 + (l.length : Int)).toNat]? = _
    congr 1
    omega
theorem at_last2 {α : Type} (l : List α) (h : 2 ≤ l.length) : atI l (-2) = l[l.length - 2]? := by
  unfold atI ixN
  rw [if_neg (by omega), if_pos (by omega)]
  show l[(-2 + (l.length : Int)).toNat]? = _
  congr 1
  omega
theorem at_nat {α : Type} (l : List α) (i : Nat) (h : i < l.length) : atI l (i : Int) = l[i]? := by
  unfold atI ixN
  rw [if_pos (by omega), if_pos (by omega)]
  show l[((i : Nat) : Int).toNat]? = _
  rw [Int.toNat_natCast]
theorem at_head {α : Type} (c : α) (r : List α) : atI (c :: r) 0 = some c := by
  have h := at_nat (c :: r) 0 (by simp)
  exact h
theorem at_int {α : Type} (l : List α) (i : Int) (h0 : 0 ≤ i) (h : i < l.length) : atI l i = l[i.toNat]? := by
  unfold atI ixN
  rw [if_pos h0, if_pos h]
  rfl
theorem at_nn {α : Type} {l : List α} {i : Int} (h : 0 ≤ i) : atI l i = l[i.toNat]? := by
  unfold atI ixN
  rw [if_pos h]
  by_cases h2 : i < l.length
  · rw [if_pos h2]
    rfl
  · rw [if_neg h2, List.getElem?_eq_none (by omega)]
    rfl
theorem ix_nn {n : Nat} {i : Int} (h : 0 ≤ i) (h2 : i < n) : ixN n i = some i.toNat := by
  unfold ixN
  rw [if_pos h, if_pos h2]
theorem cut_m2 (l : List Nat) : cutS (sL l) none (some (-2)) = sL (l.take (l.length - 2)) := by
  unfold cutS
  rw [len_sL]
  have e : HT.sIx l.length l.length (some (-2)) = l.length - 2 := by
    show (if (-2 : Int) < 0 then ((-2 : Int) + (l.length : Int)).toNat else min (-2 : Int).toNat l.length) = _
    rw [if_pos (by decide)]
    omega
  have e0 : HT.sIx l.length 0 none = 0 := rfl
  rw [e, e0]
  rfl
theorem cut_1 (l : List Nat) : cutS (sL l) (some (-1)) none = sL (l.drop (l.length - 1)) := by
  unfold cutS
  rw [len_sL]
  have e : HT.sIx l.length 0 (some (-1)) = l.length - 1 := by
    show (if (-1 : Int) < 0 then ((-1 : Int) + (l.length : Int)).toNat else min (-1 : Int).toNat l.length) = _
    rw [if_pos (by decide)]
    omega
  have e0 : HT.sIx l.length l.length none = l.length := rfl
  rw [e, e0]
  show (⟨((l.drop (l.length - 1)).take (l.length - (l.length - 1))).toArray⟩ : Str) = _
  rw [List.take_of_length_le (by rw [List.length_drop]; omega)]
theorem cut_to (l : List Nat) (n : Nat) : cutS (sL l) none (some (n : Int)) = sL (l.take n) := by
  unfold cutS
  rw [len_sL]
  have e : HT.sIx l.length l.length (some (n : Int)) = min n l.length := by
    show (if (n : Int) < 0 then ((n : Int) + (l.length : Int)).toNat else min (n : Int).toNat l.length) = _
    rw [if_neg (by omega), Int.toNat_natCast]
  have e0 : HT.sIx l.length 0 none = 0 := rfl
  rw [e, e0]
  show (⟨(l.take (min n l.length - 0)).toArray⟩ : Str) = _
  rw [Nat.sub_zero, ← List.take_take, List.take_length]
theorem cut_from (l : List Nat) (n : Nat) : cutS (sL l) (some (n : Int)) none = sL (l.drop n) := by
  unfold cutS
  rw [len_sL]
  have e : HT.sIx l.length 0 (some (n : Int)) = min n l.length := by
    show (if (n : Int) < 0 then ((n : Int) + (l.length : Int)).toNat else min (n : Int).toNat l.length) = _
    rw [if_neg (by omega), Int.toNat_natCast]
  have e0 : HT.sIx l.length l.length none = l.length := rfl
  rw [e, e0]
  show (⟨((l.drop (min n l.length)).take (l.length - min n l.length)).toArray⟩ : Str) = _
  rw [List.take_of_length_le (by rw [List.length_drop]; omega)]
  by_cases h : n ≤ l.length
  · rw [Nat.min_eq_left h]
  · rw [Nat.min_eq_right (by omega), List.drop_length, List.drop_of_length_le (by omega)]
theorem drop_last (l : List Nat) (c : Nat) : (sL (l.drop (l.length - 1)) = sL [c]) ↔ l.getLast? = some c := by
  constructor
  · intro h
    have e := sL_inj h
    rcases List.eq_nil_or_concat l with rfl | ⟨m, d, rfl⟩
    · cases e
    · rw [List.concat_eq_append, List.getLast?_concat]
      rw [List.concat_eq_append, List.length_append, List.length_singleton, Nat.add_sub_cancel, List.drop_left] at e
      cases e
      rfl
  · intro h
    rcases List.eq_nil_or_concat l with rfl | ⟨m, d, rfl⟩
    · cases h
    · rw [List.concat_eq_append, List.getLast?_concat] at h
      cases h
      rw [List.concat_eq_append, List.length_append, List.length_singleton, Nat.add_sub_cancel, List.drop_left]

/-! ### numbers in words -/
theorem numL_head {n : Nat} (h : 0 < n) : (TL.numL n).head? ≠ some 48 := by
  induction n using Nat.strongRecOn with
  | _ n ih =>
    by_cases h1 : n < 10
    · rw [TL.numL_lt h1]
      intro e
      have : 48 + n = 48 := Option.some.inj e
      omega
    · rw [TL.numL_step (by omega)]
      have e : (TL.numL (n / 10) ++ [48 + n % 10]).head? = (TL.numL (n / 10)).head? := by
        rw [List.head?_append]
        cases hh : TL.numL (n / 10) with
        | nil => exact absurd hh (TL.numL_ne _)
        | cons a r => rfl
      rw [e]
      exact ih (n / 10) (by omega) (by omega)
def okNum (w : List Nat) (len : Nat) : Bool := decide (1 ≤ w.length) && decide (w.length ≤ len) && w.all digB && !decide (w.head? = some 48)
def numberIn (w : List Nat) (most : Nat) : Nat := if okNum w (TL.numL most).length = true then (if NumText.digitsVal w ≤ most then NumText.digitsVal w else 0) else 0
theorem len2000 : (TL.numL 2000).length = 4 := by decide +kernel
theorem allDig_num (n : Nat) : (TL.numL n).all digB = true := by
  rw [List.all_eq_true]
  intro c hc
  exact digB_iff.mpr (TL.numL_digits n c hc)
theorem numberIn_num {n : Nat} (h1 : 1 ≤ n) (h2 : n ≤ 2000) : numberIn (TL.numL n) 2000 = n := by
  unfold numberIn
  have hl : 1 ≤ (TL.numL n).length := List.length_pos_iff.mpr (TL.numL_ne n)
  have ho : okNum (TL.numL n) (TL.numL 2000).length = true := by
    unfold okNum
    rw [len2000, allDig_num, decide_eq_true hl, decide_eq_true (TL.numL_len (k := 4) (by decide) (by omega)), decide_eq_false (numL_head h1)]
    rfl
  rw [if_pos ho, TL.numL_val, if_pos h2]

/-! ### from_text -/
def ftStep (trip w : List Nat) : Option (List Nat) :=
  if numberIn (w.take (w.length - 2)) 2000 = 0 then none else
    match w[w.length - 2]?, w[w.length - 1]? with
    | some x, some c => if x = 120 ∧ digB c = true ∧ trip.getLast? ≠ some c ∧ trip.length + numberIn (w.take (w.length - 2)) 2000 ≤ 2000 then some (trip ++ List.replicate (numberIn (w.take (w.length - 2)) 2000) c) else none
    | _, _ => none
def fromTextL (l : List Nat) : Option (List Nat) := if l = [] then some [] else (splitL 32 l).foldlM ftStep []

/-! ### the stretches of a trip -/
def rst (l : List Nat) (st : List (Nat × Nat × Nat) × Nat) (t : Nat) : List (Nat × Nat × Nat) × Nat :=
  if t = l.length ∨ l[t]? ≠ l[st.2]? then (st.1 ++ [(l.getD st.2 0, st.2, t)], t) else st
def rf (l : List Nat) : Nat → List (Nat × Nat × Nat) × Nat
  | 0 => ([], 0)
  | i + 1 => rst l (rf l i) (i + 1)
def runs (l : List Nat) : List (Nat × Nat × Nat) := (rf l l.length).1
def wordOf (r : Nat × Nat × Nat) : List Nat := TL.numL (r.2.2 - r.2.1) ++ [120, r.1]
def shortL (l : List Nat) : List Nat := TL.joinL [32] ((runs l).map wordOf)

structure RInv (l : List Nat) (i : Nat) (rs : List (Nat × Nat × Nat)) (b : Nat) : Prop where
  le : b ≤ i
  eqs : ∀ j, b ≤ j → j ≤ i → j < l.length → l[j]? = l[b]?
  rd : (rs.map wordOf).foldlM ftStep [] = some (l.take b)
  ne : 0 < b → b < l.length → l[b]? ≠ l[b - 1]?
  cs : ∀ r ∈ rs, r.1 ∈ l ∧ r.2.1 < r.2.2 ∧ r.2.2 ≤ i
  full : 0 < l.length → i = l.length → b = l.length
  few : rs.length ≤ i
theorem getD_of {l : List Nat} {b : Nat} (h : b < l.length) : l[b]? = some (l.getD b 0) := by
  rw [List.getD_eq_getElem?_getD, List.getElem?_eq_getElem h]
  rfl
theorem word_step {l : List Nat} (hT : Trip l) {b t : Nat} (hb : b < t) (ht : t ≤ l.length) (heq : ∀ j, b ≤ j → j < t → l[j]? = l[b]?) (hne : 0 < b → l[b]? ≠ l[b - 1]?) :
    ftStep (l.take b) (wordOf (l.getD b 0, b, t)) = some (l.take t) := by
  have hbl : b < l.length := by omega
  have h2 := hT.1
  have e1 : (wordOf (l.getD b 0, b, t)).length = (TL.numL (t - b)).length + 2 := by
    unfold wordOf
    rw [List.length_append]
    rfl
  have e2 : (wordOf (l.getD b 0, b, t)).take ((wordOf (l.getD b 0, b, t)).length - 2) = TL.numL (t - b) := by
    rw [e1]
    unfold wordOf
    rw [Nat.add_sub_cancel, List.take_left]
  have e3 : (wordOf (l.getD b 0, b, t))[(wordOf (l.getD b 0, b, t)).length - 2]? = some 120 := by
    rw [e1]
    unfold wordOf
    rw [Nat.add_sub_cancel, List.getElem?_append_right (Nat.le_refl _), Nat.sub_self]
    rfl
  have e4 : (wordOf (l.getD b 0, b, t))[(wordOf (l.getD b 0, b, t)).length - 1]? = some (l.getD b 0) := by
    rw [e1]
    show (TL.numL (t - b) ++ [120, l.getD b 0])[_]? = _
    rw [List.getElem?_append_right (by omega), show (TL.numL (t - b)).length + 2 - 1 - (TL.numL (t - b)).length = 1 by omega]
    rfl
  have e5 : numberIn (TL.numL (t - b)) 2000 = t - b := numberIn_num (by omega) (by omega)
  unfold ftStep
  rw [e2, e3, e4, e5, if_neg (by omega)]
  show (if _ then _ else _) = _
  have hc : l[b]? = some (l.getD b 0) := getD_of hbl
  rw [if_pos]
  · congr 1
    apply List.ext_getElem?
    intro j
    by_cases hj : j < b
    · rw [List.getElem?_append_left (by rw [List.length_take]; omega), List.getElem?_take_of_lt hj, List.getElem?_take_of_lt (by omega)]
    · rw [List.getElem?_append_right (by rw [List.length_take]; omega), List.length_take, Nat.min_eq_left (by omega), List.getElem?_replicate]
      by_cases hj2 : j < t
      · rw [if_pos (by omega), List.getElem?_take_of_lt hj2, heq j (by omega) hj2, hc]
      · rw [if_neg (by omega), List.getElem?_eq_none (by rw [List.length_take]; omega)]
  · refine ⟨rfl, hT.2 _ ?_, ?_, ?_⟩
    · exact List.mem_of_getElem? hc
    · intro h
      by_cases h0 : b = 0
      · subst h0
        cases h
      · rw [List.getLast?_eq_getElem?, List.length_take, Nat.min_eq_left (by omega), List.getElem?_take_of_lt (by omega)] at h
        exact hne (by omega) (hc.trans h.symm)
    · rw [List.length_take]
      omega
theorem rf_inv {l : List Nat} (hT : Trip l) : ∀ i, i ≤ l.length → RInv l i (rf l i).1 (rf l i).2
  | 0, _ => ⟨Nat.le_refl _, fun j h1 h2 _ => by
      have : j = 0 := Nat.le_zero.mp h2
      subst this
      rfl, rfl, fun h => absurd h (Nat.lt_irrefl 0), fun r hr => (by cases hr), fun h1 h2 => h2, Nat.le_refl _⟩
  | i + 1, hi => by
    have I := rf_inv hT i (by omega)
    show RInv l (i + 1) (rst l (rf l i) (i + 1)).1 (rst l (rf l i) (i + 1)).2
    generalize e : rf l i = st at I
    obtain ⟨rs, b⟩ := st
    have hb : b ≤ i := I.le
    unfold rst
    by_cases hc : i + 1 = l.length ∨ l[i + 1]? ≠ l[b]?
    · rw [if_pos hc]
      have hbl : b < l.length := by omega
      refine ⟨Nat.le_refl _, fun j h1 h2 _ => by rw [show j = i + 1 by omega], ?_, fun _ h2 => ?_, ?_, fun _ h => h, ?_⟩
      · rw [List.map_append, List.foldlM_append, I.rd]
        show (some (l.take b) >>= fun s => List.foldlM ftStep s [wordOf (l.getD b 0, b, i + 1)]) = _
        show (ftStep (l.take b) (wordOf (l.getD b 0, b, i + 1)) >>= fun s => pure s) = _
        rw [word_step hT (by omega) hi (fun j h1 h2 => I.eqs j h1 (by omega) (by omega)) (fun h0 => I.ne h0 hbl)]
        rfl
      · have h3 : l[i + 1]? ≠ l[b]? := hc.resolve_left (by intro h; omega)
        intro h4
        apply h3
        rw [h4]
        exact I.eqs i hb (Nat.le_refl _) (by omega)
      · intro r hr
        rcases List.mem_append.mp hr with h | h
        · obtain ⟨a1, a2, a3⟩ := I.cs r h
          exact ⟨a1, a2, by omega⟩
        · rw [List.mem_singleton.mp h]
          exact ⟨List.mem_of_getElem? (getD_of hbl), by show b < i + 1; omega, Nat.le_refl _⟩
      · have := I.few
        show (rs ++ [_]).length ≤ i + 1
        rw [List.length_append, List.length_singleton]
        have h5 : rs.length ≤ i := I.few
        omega
    · rw [if_neg hc]
      have h1 : i + 1 ≠ l.length := fun h => hc (.inl h)
      have h2 : l[i + 1]? = l[b]? := by
        apply Decidable.byContradiction
        intro h
        exact hc (.inr h)
      refine ⟨Nat.le_succ_of_le hb, fun j g1 g2 g3 => ?_, I.rd, I.ne, fun r hr => ?_, fun _ h => absurd h h1, Nat.le_succ_of_le I.few⟩
      · by_cases hj : j = i + 1
        · subst hj
          exact h2
        · exact I.eqs j g1 (by omega) g3
      · obtain ⟨a1, a2, a3⟩ := I.cs r hr
        exact ⟨a1, a2, by omega⟩
theorem word_free {r : Nat × Nat × Nat} (h : digB r.1 = true) : 32 ∉ wordOf r := by
  unfold wordOf
  intro hm
  rcases List.mem_append.mp hm with hm | hm
  · exact TL.numL_free (.inl (by decide)) hm
  · have := digB_iff.mp h
    simp only [List.mem_cons, List.not_mem_nil, or_false] at hm
    omega
theorem word_len {r : Nat × Nat × Nat} (h : r.2.2 ≤ 2000) : (wordOf r).length ≤ 6 := by
  unfold wordOf
  rw [List.length_append]
  have := TL.numL_len (n := r.2.2 - r.2.1) (k := 4) (by decide) (by omega)
  simp only [List.length_cons, List.length_nil]
  omega
theorem word_ne (r : Nat × Nat × Nat) : wordOf r ≠ [] := by
  unfold wordOf
  simp
theorem runs_ne {l : List Nat} (hT : Trip l) (h : l ≠ []) : runs l ≠ [] := by
  intro e
  have I := rf_inv hT l.length (Nat.le_refl _)
  have hp : 0 < l.length := List.length_pos_iff.mpr h
  have h1 := I.rd
  have h2 := I.full hp rfl
  unfold runs at e
  rw [e, h2] at h1
  have h3 : l.take l.length = [] := (Option.some.inj h1).symm
  rw [List.take_length] at h3
  exact h h3
theorem join_ne {ws : List (List Nat)} (h : ws ≠ []) (h2 : ∀ w ∈ ws, w ≠ []) : TL.joinL [32] ws ≠ [] := by
  match ws, h with
  | [p], _ => exact h2 p (List.mem_singleton.mpr rfl)
  | p :: q :: r, _ =>
    intro e
    have e2 : p ++ ([32] ++ TL.joinL [32] (q :: r)) = [] := e
    exact h2 p (List.mem_cons_self ..) (List.append_eq_nil_iff.mp e2).1
/-- a trip's short text is read back -/
theorem read_short {l : List Nat} (hT : Trip l) : fromTextL (shortL l) = some l := by
  by_cases h : l = []
  · subst h
    rfl
  · have hr := runs_ne hT h
    have I := rf_inv hT l.length (Nat.le_refl _)
    have hm : (runs l).map wordOf ≠ [] := fun e => hr (List.map_eq_nil_iff.mp e)
    have hs : shortL l ≠ [] := join_ne hm fun w hw => by
      obtain ⟨r, _, rfl⟩ := List.mem_map.mp hw
      exact word_ne r
    unfold fromTextL
    rw [if_neg hs]
    unfold splitL shortL
    rw [TL.spl_join hm fun p hp => ?_]
    · have h1 := I.rd
      rw [I.full (List.length_pos_iff.mpr h) rfl, List.take_length] at h1
      exact h1
    · obtain ⟨r, hr, rfl⟩ := List.mem_map.mp hp
      exact word_free (hT.2 _ (I.cs r hr).1)
theorem sum_le {α : Type} (f : α → Nat) (k : Nat) : ∀ l : List α, (∀ a ∈ l, f a ≤ k) → (l.map f).sum ≤ l.length * k
  | [], _ => by simp
  | a :: r, h => by
    have h1 := h a (List.mem_cons_self ..)
    have h2 := sum_le f k r fun b hb => h b (List.mem_cons_of_mem _ hb)
    rw [List.map_cons, List.sum_cons, List.length_cons, Nat.add_mul]
    omega
theorem join_len (s : List Nat) : ∀ ws : List (List Nat), (TL.joinL s ws).length ≤ (ws.map (·.length)).sum + ws.length * s.length
  | [] => by simp [TL.joinL]
  | [p] => by
    show p.length ≤ _
    simp
  | p :: q :: r => by
    have h := join_len s (q :: r)
    show (p ++ (s ++ TL.joinL s (q :: r))).length ≤ _
    rw [List.length_append, List.length_append]
    simp only [List.map_cons, List.sum_cons, List.length_cons] at h ⊢
    have e : (r.length + 1 + 1) * s.length = (r.length + 1) * s.length + s.length := by rw [Nat.add_mul (r.length + 1) 1, Nat.one_mul]
    omega
end CM

namespace CM
open PySem PySem.Spec PyProof.Rows L2
/-! ### a tuple taken apart -/
def gtO (o : Option HO) (n : Nat) (t : TGs) (σ : L2.St) (H : Hp) (R : L2.St → Hp → Prop) : Prop := match o with
  | some (.tup xs) => xs.length = n ∧ t xs σ H R
  | _ => False
def gTupF (n : Nat) (t : TGs) : TG := fun v σ H R => match v with
  | .ref a => gtO (H a) n t σ H R
  | _ => False
theorem w_gtup {n : Nat} {t : TGs} {a : Addr} {σ : L2.St} {H : Hp} {R : L2.St → Hp → Prop} : gTupF n t (.ref a) σ H R = gtO (H a) n t σ H R := rfl
theorem w_gtO {n : Nat} {t : TGs} {xs : List V} {σ : L2.St} {H : Hp} {R : L2.St → Hp → Prop} : gtO (some (.tup xs)) n t σ H R = (xs.length = n ∧ t xs σ H R) := rfl
theorem gtup_of {K : PySem.W.Frag} {n : Nat} {t : TGs} {v : V} {σ : L2.St} {H : Hp} {R : L2.St → Hp → Prop} (h : gTupF n t v σ H R) : gTup K n t v σ H R := by
  unfold gTupF at h
  split at h
  · unfold gtO at h
    split at h
    · rename_i h0
      exact ⟨_, _, rfl, SqT.of h0, h⟩
    · exact h.elim
  · exact h.elim
theorem pg_tupF {X : Cx} {es : List Expr} {k : Nat} {pos : Pos} {t : TGs} {n : Nat} (hc : X.calm = true) (h : PGs X es t) (hn : (assignEach es X.env).length = n := by rfl) (hst : (assignEach es X.env).findIdx? (·.1) = none := by rfl) :
    PG X (.Tuple es k pos) (gTupF n t) := ⟨fun pins s σ H v u Q I r q => (pg_tup hc h hn hst).run pins s σ H v u Q I r (gtup_of q)⟩
/-! ### lists out of comprehensions -/
theorem fm_bl {α : Type} (f : α → Bool) (l : List α) : l.filterMap (fun a => some (V.bl (f a))) = (l.map f).map V.bl := by
  rw [List.filterMap_eq_map', List.map_map]
  rfl
theorem fm_int {α : Type} (f : α → Int) (l : List α) : l.filterMap (fun a => some (V.int (f a))) = (l.map f).map V.int := by
  rw [List.filterMap_eq_map', List.map_map]
  rfl
theorem fm_str {α : Type} (f : α → List Nat) (l : List α) : l.filterMap (fun a => some (V.str (sL (f a)))) = (l.map f).map fun w => V.str (sL w) := by
  rw [List.filterMap_eq_map', List.map_map]
  rfl
theorem fm_v {α : Type} (f : α → V) (l : List α) : l.filterMap (fun a => some (f a)) = l.map f := by rw [List.filterMap_eq_map']
/-! ### a list of tuples -/
def TupAt {α : Type} (H : Hp) (f : α → List V) : List V → List α → Prop
  | [], [] => True
  | x :: xs, r :: rs => (∃ a, x = .ref a ∧ H a = some (.tup (f r))) ∧ TupAt H f xs rs
  | _, _ => False
section
variable {α : Type} {H H' : Hp} {f : α → List V}
theorem TupAt.mono (h : ∀ a xs, H a = some (.tup xs) → H' a = some (.tup xs)) : ∀ {xs : List V} {rs : List α}, TupAt H f xs rs → TupAt H' f xs rs
  | [], [], _ => trivial
  | x :: xs, r :: rs, ⟨⟨a, e, q⟩, t⟩ => ⟨⟨a, e, h a _ q⟩, TupAt.mono h t⟩
theorem TupAt.snoc {a : Addr} {r : α} (q : H a = some (.tup (f r))) : ∀ {xs : List V} {rs : List α}, TupAt H f xs rs → TupAt H f (xs ++ [.ref a]) (rs ++ [r])
  | [], [], _ => ⟨⟨a, rfl, q⟩, trivial⟩
  | x :: xs, s :: rs, ⟨e, t⟩ => ⟨e, TupAt.snoc q t⟩
theorem TupAt.len : ∀ {xs : List V} {rs : List α}, TupAt H f xs rs → xs.length = rs.length
  | [], [], _ => rfl
  | x :: xs, s :: rs, ⟨e, t⟩ => by rw [List.length_cons, List.length_cons, t.len]
theorem TupAt.get : ∀ {xs : List V} {rs : List α} {i : Nat} {x : V}, TupAt H f xs rs → xs[i]? = some x → ∃ a r, x = .ref a ∧ rs[i]? = some r ∧ H a = some (.tup (f r))
  | x :: xs, s :: rs, 0, y, ⟨⟨a, e, q⟩, t⟩, h => by
    have h : some x = some y := h
    cases h
    exact ⟨a, s, e, rfl, q⟩
  | x :: xs, s :: rs, i + 1, y, ⟨e, t⟩, h => TupAt.get (i := i) t h
  | [], [], i, y, _, h => by cases h
end
theorem same_tup {H H' : Hp} (S : Same H H') : ∀ a xs, H a = some (.tup xs) → H' a = some (.tup xs) := fun a xs h => S a _ h
/-! ### a comprehension over a list of tuples (any items that come with something known) -/
theorem walkQ {K : PySem.W.Frag} {a : Addr} {xs : List V} {α : Type} {rs : List α} {H0 : Hp} {f : α → List V} (T : TupAt H0 f xs rs) :
    Walk (Itl K a) (rs.zip xs).length (fun H => H a = some (.lst xs)) (fun i H x H' => H' = H ∧ ∃ b, (rs.zip xs)[i]? = some b ∧ x = b.2) := by
  have e : (rs.zip xs).length = xs.length := by rw [List.length_zip, T.len, Nat.min_self]
  rw [e]
  refine (walk_list (K := K) (a := a) (xs := xs)).mono (fun H h => SqL.of h) fun i H x H' hi _ y => ?_
  obtain ⟨h1, h2⟩ := y
  obtain ⟨b, r, h3, h4, h5⟩ := T.get h2
  exact ⟨h1, (r, x), by rw [List.getElem?_zip_eq_some]; exact ⟨h4, h2⟩, rfl⟩
theorem zip_fm {α β : Type} (g : α → β) : ∀ (rs : List α) (xs : List V), rs.length = xs.length → (rs.zip xs).filterMap (fun b => some (g b.1)) = rs.map g
  | [], _, _ => by simp
  | r :: rs, [], h => by simp at h
  | r :: rs, x :: xs, h => by
    rw [List.zip_cons_cons, List.filterMap_cons]
    show g r :: _ = _
    rw [zip_fm g rs xs (by simpa using h)]
    rfl
theorem TupAt.mem {α : Type} {H : Hp} {f : α → List V} {xs : List V} {rs : List α} (T : TupAt H f xs rs) {b : α × V} (h : b ∈ rs.zip xs) : b.1 ∈ rs ∧ ∃ a, b.2 = .ref a ∧ H a = some (.tup (f b.1)) := by
  obtain ⟨i, hi⟩ := List.mem_iff_getElem?.mp h
  rw [List.getElem?_zip_eq_some] at hi
  obtain ⟨a, r, h3, h4, h5⟩ := T.get hi.2
  rw [h4] at hi
  have e := Option.some.inj hi.1
  rw [← e]
  exact ⟨List.mem_of_getElem? h4, a, h3, h5⟩

theorem lg {i : Int} (h : i.natAbs < 2 ^ 64) : i.natAbs.log2 < 1920 := by
  by_cases h0 : i.natAbs = 0
  · rw [h0]
    decide
  · exact (Nat.log2_lt h0).mpr (Nat.lt_of_lt_of_le h (Nat.pow_le_pow_right (by decide) (by decide)))
/-! ### the bag of draws -/
def Bag (H : Hp) (b sp : Addr) : Prop := sp ≠ b ∧ ∃ (ns : List Int) (i big mix cnt : Int), H b = some (.lst [.ref sp, .int i, .int big, .int mix, .int cnt]) ∧ H sp = some (.lst (ns.map V.int)) ∧ 0 ≤ i ∧ 0 ≤ big
theorem Bag.kp {H H' : Hp} {b sp : Addr} (B : Bag H b sp) (h1 : H' b = H b) (h2 : H' sp = H sp) : Bag H' b sp := by
  obtain ⟨h0, ns, i, big, mix, cnt, a1, a2, a3⟩ := B
  exact ⟨h0, ns, i, big, mix, cnt, by rw [h1]; exact a1, by rw [h2]; exact a2, a3⟩
theorem Bag.same {H H' : Hp} {b sp : Addr} (B : Bag H b sp) (S : Same H H') : Bag H' b sp := by
  obtain ⟨h0, ns, i, big, mix, cnt, a1, a2, a3⟩ := B
  exact ⟨h0, ns, i, big, mix, cnt, S _ _ a1, S _ _ a2, a3⟩
theorem Bag.ne {H : Hp} {b sp l : Addr} (B : Bag H b sp) (h : H l = none) : l ≠ b ∧ l ≠ sp := by
  obtain ⟨h0, ns, i, big, mix, cnt, a1, a2, a3⟩ := B
  exact ⟨(ne_of_none a1 h).symm, (ne_of_none a2 h).symm⟩
theorem Bag.mut {H : Hp} {b sp l : Addr} {o : HO} (B : Bag H b sp) (h1 : l ≠ b) (h2 : l ≠ sp) : Bag (upd H l o) b sp := B.kp (upd_ne h1.symm) (upd_ne h2.symm)

/-! ### the end -/
def sp_law (K : PySem.W.Frag) : Sp := fun vs H Q _ => ∃ (a : Addr) (ns : List Int), vs = [.ref a] ∧ SqL K H a (ns.map V.int) ∧ ∀ H', Q (.bl true) H'
section
variable {K : PySem.W.Frag} {h : Heap} {mg : Str → Option Value}
theorem df_mk {x : Str} {st : Stmt} {ps : List Str} {f : Addr} {oc : Value} {od an : Option Addr} {osl : Array (Option Value)} {kV doc pm cdv ct : Value} (X : K.In h) (G : h.Ns mainGlobals mg) (a : PySem.W.nsIn K mainGlobals x = some (some (.ref f)))
    (l : K.lookup f = some ⟨oc, od, .func (PySem.W.fnOf x x (defArgs st) (defBody st) (defScope st) .none kV doc pm an cdv ct), osl⟩) (c : PySem.W.codeIn K cdv x = true) (k : PySem.W.keepIn K (.ref f) = true)
    (hb : ∀ (kV doc pm : Value) (an : Option Addr) (cdv ct : Value) (us : List Value), us.length = ps.length → bindArgs (PySem.W.fnOf x x (defArgs st) (defBody st) (defScope st) .none kV doc pm an cdv ct) ⟨us, []⟩ = pure (ps.zip us)) : Df K mg x st ps :=
  ⟨f, _, PySem.W.mg_of X G a, fun_mk l c k, (fun_mk (st := st) l c k).binds hb⟩
theorem const_mk {x : Str} {v : Value} {f : Tok → Value} (X : K.In h) (G : h.Ns mainGlobals mg) (a : PySem.W.nsIn K mainGlobals x = some (some v)) (e : ∃ t, v = f t) : ∃ t, mg x = some (f t) := by
  obtain ⟨t, rfl⟩ := e
  exact ⟨t, PySem.W.mg_of X G a⟩
/-- the law's own def -/
structure LawD (K : PySem.W.Frag) (mg : Str → Option Value) (st : Stmt) : Prop where
  df : Df K mg "law" st ["_law_script"]
  ex : ∃ f fd oc od osl, mg "law" = some (.ref f) ∧ K.lookup f = some ⟨oc, od, .func fd, osl⟩ ∧ ∀ (s : Shared) (u : Value), BindsTo s fd ⟨[u], []⟩ [("_law_script", u)]
abbrev DfOf (_ : K.In h) (mg : Str → Option Value) (x : Str) (st : Stmt) (ps : List Str) : Prop := Df K mg x st ps
abbrev LawOf (_ : K.In h) (mg : Str → Option Value) (st : Stmt) : Prop := LawD K mg st
theorem law_mk {st : Stmt} {f : Addr} {oc : Value} {od an : Option Addr} {osl : Array (Option Value)} {kV doc pm cdv ct : Value} (X : K.In h) (G : h.Ns mainGlobals mg) (a : PySem.W.nsIn K mainGlobals "law" = some (some (.ref f)))
    (l : K.lookup f = some ⟨oc, od, .func (PySem.W.fnOf "law" "law" (defArgs st) (defBody st) (defScope st) .none kV doc pm an cdv ct), osl⟩) (c : PySem.W.codeIn K cdv "law" = true) (k : PySem.W.keepIn K (.ref f) = true)
    (hb : ∀ (kV doc pm : Value) (an : Option Addr) (cdv ct : Value) (us : List Value), us.length = (["_law_script"] : List Str).length → bindArgs (PySem.W.fnOf "law" "law" (defArgs st) (defBody st) (defScope st) .none kV doc pm an cdv ct) ⟨us, []⟩ = pure ((["_law_script"] : List Str).zip us)) : LawD K mg st :=
  ⟨df_mk X G a l c k hb, f, _, oc, od, osl, PySem.W.mg_of X G a, l, fun s u => .of_eq (hb _ _ _ _ _ _ [u] rfl)⟩
end
theorem walkF {l : PySem.W.OpenLaw} {q : Program} {loose : List Str} {XP : (Str → Option Value) → Heap → Prop} {YP : World → Heap → Prop} {d : DefRec} {K : Params → PySem.W.Frag} (st : Stmt) (k : Nat) (hn : l.most = some 63) (hdf : d.params.defaults = []) (hr : Room k callerA) (hd : d.name = "law")
    (hY : ∀ (w : World) (h : Heap), YP w h → (K w.params).In h)
    (F : ∀ (w : World) (mg : Str → Option Value) (h : Heap), (K w.params).In h → h.Ns mainGlobals mg → LawD (K w.params) mg st ∧ ∀ base : Heap, (K w.params).In base → base.Ns mainGlobals mg → Fn l.prog w (K w.params) mg base "law" k ["_law_script"] (sp_law (K w.params))) :
    PySem.W.WalkO q loose XP YP l.row.toRowW d [] (fun f vs => PySem.call f vs) := by
  refine L2.walk_of (n := 63) (k := k) (x := "_law_script") (CX := fun _ => CX0) (sp := fun w => sp_law (K w.params)) hn (by decide) hdf hr hY ?_ (fun _ _ a ns hl _ hS => ⟨a, ns, rfl, hS, fun _ => rfl⟩) fun _ _ _ _ _ z => z
  intro w mg fa h X G hm
  obtain ⟨⟨_, f, fd, oc, od, osl, h1, h2, h3⟩, hF⟩ := F w mg h X G
  rw [hd, h1] at hm
  cases hm
  refine ⟨fd, h3, fun base B1 B2 => ?_⟩
  obtain ⟨f', fd', g1, g2, g3, g4, oc', od', osl', g5⟩ := (hF base B1 B2).ex
  rw [h1] at g1
  cases g1
  rw [h2] at g5
  cases g5
  exact g2
end CM

namespace CM
open PySem PySem.Spec PyProof.Rows L2
/-! ### equal data -/
def okD (n : Nat) (d : PyData) : Prop := d.canLay0 = true ∧ d.depth ≤ n
theorem okD.mono {n m : Nat} {d : PyData} (h : okD n d) (k : n ≤ m) : okD m d := ⟨h.1, Nat.le_trans h.2 k⟩
theorem okAll {n : Nat} : ∀ {ds : List PyData}, (∀ d ∈ ds, okD n d) → PyData.canLayAll0 ds = true ∧ PyData.depthAll ds ≤ n
  | [], _ => ⟨by simp [PyData.canLayAll0], by simp [PyData.depthAll]⟩
  | d :: ds, h => by
    have h1 := h d (List.mem_cons_self ..)
    have h2 := okAll (ds := ds) fun e he => h e (List.mem_cons_of_mem _ he)
    refine ⟨?_, ?_⟩
    · simp only [PyData.canLayAll0, h1.1, h2.1, Bool.and_self]
    · simp only [PyData.depthAll]
      exact Nat.max_le.mpr ⟨h1.2, h2.2⟩
theorem ok_int (n : Nat) (i : Int) : okD n (.int i) := ⟨by simp [PyData.canLay0], by simp [PyData.depth]⟩
theorem ok_bool (n : Nat) (i : Bool) : okD n (.bool i) := ⟨by simp [PyData.canLay0], by simp [PyData.depth]⟩
theorem ok_none (n : Nat) : okD n .none := ⟨by simp [PyData.canLay0], by simp [PyData.depth]⟩
theorem ok_list {n : Nat} {ds : List PyData} (h : ∀ d ∈ ds, okD n d) : okD (n + 1) (.list ds) := by
  have h2 := okAll h
  refine ⟨?_, ?_⟩
  · simp only [PyData.canLay0]
    exact h2.1
  · simp only [PyData.depth]
    omega
theorem ok_tup {n : Nat} {ds : List PyData} (h : ∀ d ∈ ds, okD n d) : okD (n + 1) (.tuple ds) := by
  have h2 := okAll h
  refine ⟨?_, ?_⟩
  · simp only [PyData.canLay0]
    exact h2.1
  · simp only [PyData.depth]
    omega
theorem okD.shaped {n : Nat} {d : PyData} (h : okD n d) (hn : n ≤ 64) : SeqAt.shaped d = true := by
  unfold SeqAt.shaped
  rw [h.1, decide_eq_true (Nat.le_trans h.2 hn)]
  rfl
def SD (K : PySem.W.Frag) (neg : Bool) (x y : V) (H : Hp) (Q : VK) (_ : Seal Q) : Prop := ∃ d e, Dp K H x d ∧ Dp K H y e ∧ SeqAt.shaped d = true ∧ SeqAt.shaped e = true ∧ Q (.bl (xor neg (PyData.eqv d e))) H
def rEqX (K : PySem.W.Frag) : R2
  | .ref p, y, H, Q => SD K false (.ref p) y H Q .mk
  | x, .ref q, H, Q => SD K false x (.ref q) H Q .mk
  | x, y, H, Q => rEqF x y H Q
def rNeX (K : PySem.W.Frag) : R2
  | .ref p, y, H, Q => SD K true (.ref p) y H Q .mk
  | x, .ref q, H, Q => SD K true x (.ref q) H Q .mk
  | x, y, H, Q => rNeF x y H Q
section
variable {X : Cx}
theorem op_eqX {K : PySem.W.Frag} (hu : X.A.units + 64 < cLine) (hK : X.K = K := by rfl) : OpR X (compareOp .Eq) (rEqX K) := hK ▸ opImp (L2.OpR.or op_eqF (op_eqD hu)) fun x y H Q h => by
  unfold rEqX at h
  split at h
  · obtain ⟨d, e, h1, h2, h3, h4, h5⟩ := h
    exact .inr ⟨d, e, h1, h2, h3, h4, by simpa using h5⟩
  · obtain ⟨d, e, h1, h2, h3, h4, h5⟩ := h
    exact .inr ⟨d, e, h1, h2, h3, h4, by simpa using h5⟩
  · exact .inl h
theorem op_neX {K : PySem.W.Frag} (hu : X.A.units + 64 < cLine) (hK : X.K = K := by rfl) : OpR X (compareOp .NotEq) (rNeX K) := hK ▸ opImp (L2.OpR.or op_neF (op_neD hu)) fun x y H Q h => by
  unfold rNeX at h
  split at h
  · obtain ⟨d, e, h1, h2, h3, h4, h5⟩ := h
    exact .inr ⟨d, e, h1, h2, h3, h4, by simpa using h5⟩
  · obtain ⟨d, e, h1, h2, h3, h4, h5⟩ := h
    exact .inr ⟨d, e, h1, h2, h3, h4, by simpa using h5⟩
  · exact .inl h
end
section
variable {K : PySem.W.Frag} {H : Hp} {Q : VK} {p q : Addr} {i j : Int} {a b : Str} {x y : V} {k m : Bool}
theorem x_eq1 : rEqX K (.ref p) y H Q = SD K false (.ref p) y H Q .mk := rfl
theorem x_eq2 : rEqX K (.int i) (.ref q) H Q = SD K false (.int i) (.ref q) H Q .mk := rfl
theorem x_eq3 : rEqX K .non (.ref q) H Q = SD K false .non (.ref q) H Q .mk := rfl
theorem x_eq4 : rEqX K (.int i) (.int j) H Q = rEqF (.int i) (.int j) H Q := rfl
theorem x_eq5 : rEqX K (.str a) (.str b) H Q = rEqF (.str a) (.str b) H Q := rfl
theorem x_eq6 : rEqX K (.bl k) (.bl m) H Q = rEqF (.bl k) (.bl m) H Q := rfl
theorem x_eq7 : rEqX K .non .non H Q = rEqF .non .non H Q := rfl
theorem x_eq8 : rEqX K .non (.int i) H Q = rEqF .non (.int i) H Q := rfl
theorem x_eq9 : rEqX K .non (.str a) H Q = rEqF .non (.str a) H Q := rfl
theorem x_eq10 : rEqX K (.int i) .non H Q = rEqF (.int i) .non H Q := rfl
theorem x_eq11 : rEqX K (.str a) .non H Q = rEqF (.str a) .non H Q := rfl
theorem x_eq12 : rEqX K (.int i) (.str a) H Q = rEqF (.int i) (.str a) H Q := rfl
theorem x_eq13 : rEqX K (.str a) (.int i) H Q = rEqF (.str a) (.int i) H Q := rfl
theorem x_ne1 : rNeX K (.ref p) y H Q = SD K true (.ref p) y H Q .mk := rfl
theorem x_ne2 : rNeX K (.int i) (.ref q) H Q = SD K true (.int i) (.ref q) H Q .mk := rfl
theorem x_ne3 : rNeX K .non (.ref q) H Q = SD K true .non (.ref q) H Q .mk := rfl
theorem x_ne4 : rNeX K (.int i) (.int j) H Q = rNeF (.int i) (.int j) H Q := rfl
theorem x_ne5 : rNeX K (.str a) (.str b) H Q = rNeF (.str a) (.str b) H Q := rfl
theorem x_ne6 : rNeX K (.bl k) (.bl m) H Q = rNeF (.bl k) (.bl m) H Q := rfl
theorem x_ne7 : rNeX K .non .non H Q = rNeF .non .non H Q := rfl
theorem x_ne8 : rNeX K .non (.int i) H Q = rNeF .non (.int i) H Q := rfl
theorem x_ne9 : rNeX K .non (.str a) H Q = rNeF .non (.str a) H Q := rfl
/-- two that hold the same data -/
theorem sd_same {neg : Bool} {d : PyData} {n : Nat} (h1 : Dp K H x d) (h2 : Dp K H y d) (ok : okD n d) (hn : n ≤ 64) (q : Q (.bl (!neg)) H) : SD K neg x y H Q .mk := by
  refine ⟨d, d, h1, h2, ok.shaped hn, ok.shaped hn, ?_⟩
  rw [SeqAt.eqv_refl d ok.1]
  cases neg <;> exact q
theorem dpAll_map {α : Type} {f : α → V} {g : α → PyData} : ∀ {l : List α}, (∀ a ∈ l, Dp K H (f a) (g a)) → DpAll K H (l.map f) (l.map g)
  | [], _ => .nil
  | a :: l, h => .cons (h a (List.mem_cons_self ..)) (dpAll_map fun b hb => h b (List.mem_cons_of_mem _ hb))
theorem dp_ints {ns : List Int} (h : H p = some (.lst (ns.map V.int))) : Dp K H (.ref p) (.list (ns.map .int)) := .lst (SqL.of h) (dpAll_map fun a _ => .int a)
theorem ok_ints (ns : List Int) : okD 1 (.list (ns.map .int)) := ok_list fun d hd => by
  obtain ⟨i, _, rfl⟩ := List.mem_map.mp hd
  exact ok_int 0 i
theorem dpAll_tup {α : Type} {f : α → List V} {g : α → List PyData} (hf : ∀ a, DpAll K H (f a) (g a)) : ∀ {xs : List V} {rs : List α}, TupAt H f xs rs → DpAll K H xs (rs.map fun r => .tuple (g r))
  | [], [], _ => .nil
  | x :: xs, r :: rs, ⟨⟨a, e, q⟩, t⟩ => by
    subst e
    exact .cons (.tup (SqT.of q) (hf r)) (dpAll_tup hf t)
end
/-! ### a comprehension that makes tuples -/
section
variable {σ : L2.St} {H : Hp} {Q : VK} {c : TT} {te : TE} {g : TG}
theorem lpc_tup {α β : Type} {J : It} {G : Hp → Prop} {items : List α} {emb : α → V} (w : Walk J items.length G (fun i H x H' => H' = H ∧ ∃ a, items[i]? = some a ∧ x = emb a)) {vs : List Nat} {D : Addr} {H1 : Hp} {σw : L2.St} (hw : σw = wipe σw vs) (hD : H1 D = none) (hn : items.length ≤ 16777216)
    (f : α → Option β) (tp : β → List V) (R : Hp → Prop) (hR0 : R H1) (hRD : ∀ H o, R H → R (upd H D o)) (hG : ∀ H, R H → G H)
    (hs : ∀ a H (N : VK) (M : Hp → Prop), a ∈ items → R H → (∃ acc, H D = some (.lst acc) ∧ (∀ r q H4, f a = some r → R H4 → Same H H4 → H4 q = some (.tup (tp r)) → N (.ref q) H4) ∧ (∀ H4, f a = none → R H4 → Same H H4 → M H4)) →
      g (emb a) σw H fun σ2 H2 => wipe σ2 vs = σw ∧ c σ2 H2 fun b H3 => if b = true then te σ2 H3 N else M H3)
    (hd : ∀ H xs, R H → H D = some (.lst xs) → TupAt H tp xs (items.filterMap f) → Q (.ref D) H) : LpC J g c te .mk .mk .mk vs σw D H1 Q .mk := by
  obtain ⟨σ0, h00⟩ : ∃ σ0, σw = wipe σ0 vs := ⟨σw, hw⟩
  clear hw
  subst h00
  refine lc_it w (fun i H => i ≤ items.length ∧ R H ∧ ∃ xs, H D = some (.lst xs) ∧ TupAt H tp xs ((items.take i).filterMap f)) ⟨Nat.zero_le _, hRD _ _ hR0, [], upd_same, trivial⟩ (fun i H hi p => hG H p.2.1) ?_ (fun H p => ?_)
  · rintro i x H H' hi ⟨_, p1, xs, p2, p3⟩ ⟨rfl, a, ha, rfl⟩
    refine hs a H' _ _ (List.mem_of_getElem? ha) p1 ⟨xs, p2, fun r q H4 e1 e2 e3 e4 => ⟨xs, e3 _ _ p2, ?_, by omega, hRD _ _ e2, xs ++ [.ref q], upd_same, ?_⟩, fun H4 e1 e2 e3 => ⟨by omega, e2, xs, e3 _ _ p2, ?_⟩⟩
    · have h1 := p3.len
      have h2 : ((items.take i).filterMap f).length ≤ i := Nat.le_trans (List.length_filterMap_le _ _) (by rw [List.length_take]; omega)
      show _ < 2 ^ 24
      omega
    · rw [take_fm f ha, e1]
      refine (TupAt.snoc e4 (p3.mono (same_tup e3))).mono fun b ys hb => ?_
      rw [upd_ne (ne_of hb (e3 _ _ p2) (by intro z; cases z))]
      exact hb
    · rw [take_fm f ha, e1]
      simp only [Option.toList_none, List.append_nil]
      exact p3.mono (same_tup e3)
  · obtain ⟨_, p1, xs, p2, p3⟩ := p
    rw [List.take_length] at p3
    exact hd H xs p1 p2 p3
end
/-! ### a star among the items -/
def starO (o : Option HO) (t : TA) (σ : L2.St) (H1 : Hp) (Qa : List V → Hp → Prop) : Prop := match o with
  | some (.lst xs) => t σ H1 fun ys H2 => Qa (xs ++ ys) H2
  | some (.tup xs) => t σ H1 fun ys H2 => Qa (xs ++ ys) H2
  | _ => False
def tStarF (te : TE) (t : TA) : TA := fun σ H Qa => te σ H fun x H1 => match x with
  | .ref p => starO (H1 p) t σ H1 Qa
  | _ => False
section
variable {X : Cx} {e : Expr} {es : List Expr} {te : TE} {t : TA} {p : Pos} {σ : L2.St} {H : Hp} {Qa : List V → Hp → Prop}
theorem pa_starF (he : PE X e te) (hr : PA X es t) (hs : starEach (.Starred e p :: es) X.env = (true, eval e X.env) :: starEach es X.env := by rfl) : PA X (.Starred e p :: es) (tStarF te t) := by
  refine ⟨fun pos pins s σ H Q I h => (StX.pa_star (pe_up he) hr hs).run pos pins s σ H Q I ⟨_, h, fun x H1 q => ?_⟩⟩
  split at q
  · unfold starO at q
    split at q
    · rename_i h0
      exact ⟨_, _, rfl, .inr (SqL.of h0), q⟩
    · rename_i h0
      exact ⟨_, _, rfl, .inl (SqT.of h0), q⟩
    · exact q.elim
  · exact q.elim
def starV (x : V) (t : TA) (σ : L2.St) (H1 : Hp) (Qa : List V → Hp → Prop) : Prop := match x with
  | .ref p => starO (H1 p) t σ H1 Qa
  | _ => False
theorem w_star : tStarF te t σ H Qa = te σ H fun x H1 => starV x t σ H1 Qa := rfl
theorem f_star {a : Addr} : starV (.ref a) t σ H Qa = starO (H a) t σ H Qa := rfl
theorem f_starO1 {xs : List V} : starO (some (.lst xs)) t σ H Qa = t σ H fun ys H2 => Qa (xs ++ ys) H2 := rfl
theorem f_starO2 {xs : List V} : starO (some (.tup xs)) t σ H Qa = t σ H fun ys H2 => Qa (xs ++ ys) H2 := rfl
end
end CM

namespace CM
open PySem PySem.Spec PyProof.Rows L2
/-! ### defs with defaults -/
structure DfD (K : PySem.W.Frag) (mg : Str → Option Value) (x : Str) (st : Stmt) (ps : List Str) (dvs : List V) : Prop where
  ex : ∃ f fd, mg x = some (.ref f) ∧ FunD K x x (defArgs st) (defBody st) (defScope st) dvs [] f fd ∧ Binds K fd ps [] ∧ ∃ ds, Vals dvs ds ∧ Binds K fd ps ds
structure FnD (P : Program) (w : World) (K : PySem.W.Frag) (mg : Str → Option Value) (base : Heap) (x : Str) (k : Nat) (ps : List Str) (dvs : List V) (sp : Sp) : Prop where
  fn : Fn P w K mg base x k ps sp
  ex : ∃ f fd, mg x = some (.ref f) ∧ FnOk P w K mg base CX0 k f fd ps sp ∧ PySem.W.keepIn K (.ref f) = true ∧ ∃ ds, Vals dvs ds ∧ Binds K fd ps ds
section
variable {P : Program} {w : World} {K : PySem.W.Frag} {mg : Str → Option Value} {base : Heap}
theorem DfD.ok {x : Str} {st : Stmt} {N ps : List Str} {dvs : List V} {k : Nat} {sp : Sp} (D : DfD K mg x st ps dvs) (S : FnScope N ps (defScope st)) (len : ∀ vs H Q E, sp vs H Q E → vs.length = ps.length)
    (hbody : ∀ (f : Addr) (cdv : Value) (A : Around) (outer : List Env) (s : Shared) (H : Hp) (vs : List V) (Q : VK) (E : XK), Room k (A.deeper (envOfC x (defScope st) s.heap.objs.size f cdv)) → sp vs H Q E →
      ∃ t, PSs (cxOf CX0 P w K mg base N x (defScope st) f cdv A outer s H E).nox (defBody st) t ∧ t { nx := fun _ H' => Q .non H', rt := Q } (start N vs) H) : FnD P w K mg base x (k + 1) ps dvs sp := by
  obtain ⟨f, fd, h1, F, b, b2⟩ := D.ex
  obtain ⟨oc, od, dV, kV, doc, pm, an, cdv, ct, osl, e1, lk, hcd, _⟩ := F.ex
  have G : FnOk P w K mg base CX0 (k + 1) f fd ps sp := F.ok S len fun cdv A outer s H vs Q E hr h => by
    obtain ⟨t, h2, q⟩ := hbody f cdv A outer s H vs Q E hr h
    exact ⟨t, h2.nox, q⟩
  exact ⟨⟨f, fd, h1, G, F.kp, b, oc, od, osl, lk⟩, f, fd, h1, G, F.kp, b2⟩
end
section
variable {X : Cx} {x : Str} {k : Nat} {ps : List Str} {dvs : List V} {sp : Sp} {e : Expr} {es : List Expr} {t : TA} {p pos : Pos}
theorem pe_fnD (F : FnD X.prog X.w X.K X.mg X.base x k ps dvs sp) (hr : Room k X.A) (hg : Gl X x) (ha : PA X (e :: es) t) (hdb : (x == ("__debug__" : Str)) = false := by decide)
    (he : starEach (e :: es) X.env = (false, eval e X.env) :: starEach es X.env := by rfl) (hpl : (backTo pos (starEach es X.env)).any (·.1) = false := by rfl) :
    PE X (.Call (.Name x p) (e :: es) [] pos) (tCall sp dvs E0 t) := by
  obtain ⟨f, fd, h1, G, h2, ds, v, b⟩ := F.ex
  exact pe_call G hr hg h1 h2 b v pass0 ha hdb he hpl
end
/-! ### a def that is a value -/
structure FnAt (P : Program) (w : World) (K : PySem.W.Frag) (mg : Str → Option Value) (base : Heap) (f : Addr) (k : Nat) (n : Nat) (dvs : List V) (sp : Sp) : Prop where
  ex : ∃ fd ps, FnOk P w K mg base CX0 k f fd ps sp ∧ PySem.W.keepIn K (.ref f) = true ∧ n + dvs.length = ps.length ∧ ∃ ds, Vals dvs ds ∧ Binds K fd ps ds
theorem FnAt.mono {P : Program} {w : World} {K : PySem.W.Frag} {mg : Str → Option Value} {base : Heap} {f : Addr} {k j n : Nat} {dvs : List V} {sp : Sp} (F : FnAt P w K mg base f k n dvs sp) (h : k ≤ j) : FnAt P w K mg base f j n dvs sp := by
  obtain ⟨fd, ps, a, b⟩ := F.ex
  exact ⟨fd, ps, a.mono h, b⟩
theorem Fn.at {P : Program} {w : World} {K : PySem.W.Frag} {mg : Str → Option Value} {base : Heap} {x : Str} {k : Nat} {ps : List Str} {sp : Sp} (F : Fn P w K mg base x k ps sp) : ∃ f, mg x = some (.ref f) ∧ FnAt P w K mg base f k ps.length [] sp := by
  obtain ⟨f, fd, h1, G, h2, b, _⟩ := F.ex
  exact ⟨f, h1, fd, ps, G, h2, rfl, [], .nil, b⟩
theorem FnD.at {P : Program} {w : World} {K : PySem.W.Frag} {mg : Str → Option Value} {base : Heap} {x : Str} {k : Nat} {ps : List Str} {dvs : List V} {sp : Sp} (F : FnD P w K mg base x k ps dvs sp) (n : Nat) (hn : n + dvs.length = ps.length) :
    ∃ f, mg x = some (.ref f) ∧ FnAt P w K mg base f k ps.length [] sp ∧ FnAt P w K mg base f k n dvs sp := by
  obtain ⟨f, fd, h1, G, h2, b, _⟩ := F.fn.ex
  obtain ⟨f', fd', g1, G', g2, b2⟩ := F.ex
  rw [h1] at g1
  cases g1
  exact ⟨f, h1, ⟨fd, ps, G, h2, rfl, [], .nil, b⟩, fd', ps, G', g2, hn, b2⟩
/-- a call of whatever def the value is -/
def KeptV (K : PySem.W.Frag) (v : V) : Prop := ∃ f, v = .ref f ∧ PySem.W.keepIn K (.ref f) = true
def VCall (P : Program) (w : World) (K : PySem.W.Frag) (mg : Str → Option Value) (base : Heap) (k : Nat) (v : V) (vs : List V) (H2 : Hp) (Q : VK) (_ : Seal Q) : Prop := ∃ f sp dvs, v = .ref f ∧ FnAt P w K mg base f k vs.length dvs sp ∧ sp (vs ++ dvs) H2 Q E0
def tCallV (P : Program) (w : World) (K : PySem.W.Frag) (mg : Str → Option Value) (base : Heap) (k : Nat) (tf : TE) (t : TA) : TE := fun σ H Q => tf σ H fun v H1 => KeptV K v ∧ t σ H1 fun vs H2 => VCall P w K mg base k v vs H2 Q .mk
theorem w_callV {P : Program} {w : World} {K : PySem.W.Frag} {mg : Str → Option Value} {base : Heap} {k : Nat} {tf : TE} {t : TA} {σ : L2.St} {H : Hp} {Q : VK} : tCallV P w K mg base k tf t σ H Q = tf σ H fun v H1 => KeptV K v ∧ t σ H1 fun vs H2 => VCall P w K mg base k v vs H2 Q .mk := rfl
theorem vcall {P : Program} {w : World} {K : PySem.W.Frag} {mg : Str → Option Value} {base : Heap} {k j n : Nat} {f : Addr} {vs dvs : List V} {H : Hp} {Q : VK} {sp : Sp} (F : FnAt P w K mg base f j n dvs sp) (h : j ≤ k) (hn : vs.length = n) (q : sp (vs ++ dvs) H Q E0) : VCall P w K mg base k (.ref f) vs H Q .mk := by
  subst hn
  exact ⟨f, sp, dvs, rfl, F.mono h, q⟩
theorem FnAt.kept {P : Program} {w : World} {K : PySem.W.Frag} {mg : Str → Option Value} {base : Heap} {f : Addr} {k n : Nat} {dvs : List V} {sp : Sp} (F : FnAt P w K mg base f k n dvs sp) : KeptV K (.ref f) := by
  obtain ⟨fd, ps, a, b, _⟩ := F.ex
  exact ⟨f, rfl, b⟩
section
variable {X : Cx} {fe e : Expr} {es : List Expr} {tf : TE} {t : TA} {pos : Pos} {k : Nat}
theorem pe_callV (hr : Room k X.A) (hf : PE X fe tf) (ha : PA X (e :: es) t)
    (hc : eval (.Call fe (e :: es) [] pos) X.env = (do callWith pos (← eval fe X.env) [] (backTo pos (starEach (e :: es) X.env)) (backToKw pos (keywordEach [] X.env))) := by rfl)
    (he : starEach (e :: es) X.env = (false, eval e X.env) :: starEach es X.env := by rfl) (hpl : (backTo pos (starEach es X.env)).any (·.1) = false := by rfl) :
    PE X (.Call fe (e :: es) [] pos) (tCallV X.prog X.w X.K X.mg X.base k tf t) := by
  refine ⟨fun pins s σ H Q I h => ?_⟩
  refine Call_ (thn (hf.run pins s σ H _ I h) fun u s1 ⟨v, H1, I1, r1, q0, q1⟩ => ?_) hc
  obtain ⟨f, rfl, hk⟩ := q0
  cases (show u = Value.ref f from r1)
  refine PySem.W.callWith_K (h₀ := X.base) I.ok.mod.kin hk (thn (ha.run pos pins s1 σ H1 _ I1 q1) fun us s2 ⟨vs, H2, I2, r, q⟩ => ⟨I2.kIn, ?_⟩) he hpl
  obtain ⟨f', sp, dvs, e1, F, q⟩ := q
  cases e1
  obtain ⟨fd, ps, G, _, hl, ds, hv, b⟩ := F.ex
  exact run_fn G hr b hv pass0 I2 r q
end
end CM

namespace CM
open PySem PySem.Spec PyProof.Rows L2
/-! ### sorted, of pairs of ints -/
def leP (a b : Int × Int) : Bool := !SrtO.lexB b a
theorem leP_iff {a b : Int × Int} : leP a b = true ↔ ¬ (b.1 < a.1 ∨ (b.1 = a.1 ∧ b.2 < a.2)) := by
  unfold leP
  rw [Bool.not_eq_true', SrtO.lexB_no]
def srt (l : List (Int × Int)) : List (Int × Int) := l.mergeSort leP
theorem srt_perm (l : List (Int × Int)) : (srt l).Perm l := List.mergeSort_perm l leP
theorem srt_sorted (l : List (Int × Int)) : (srt l).Pairwise fun a b => leP a b = true := by
  refine List.pairwise_mergeSort (fun a b c h1 h2 => ?_) (fun a b => ?_) l
  · rw [leP_iff] at *
    omega
  · rw [Bool.or_eq_true, leP_iff, leP_iff]
    omega
theorem srt_uniq {l m : List (Int × Int)} (hp : m.Perm l) (hs : m.Pairwise fun a b => leP a b = true) : m = srt l := by
  refine List.Perm.eq_of_pairwise (le := fun a b => leP a b = true) (fun a b _ _ h1 h2 => ?_) hs (srt_sorted l) (hp.trans (srt_perm l).symm)
  rw [leP_iff] at h1 h2
  exact Prod.ext (by omega) (by omega)
def tI (r : Int × Int) : List V := [.int r.1, .int r.2]
def kOf (H : Hp) (x : V) : Int × Int := match x with
  | .ref t => (match H t with | some (.tup [.int i, .int j]) => (i, j) | _ => (0, 0))
  | _ => (0, 0)
theorem tup_k {H : Hp} : ∀ {xs : List V} {rs : List (Int × Int)}, TupAt H tI xs rs → rs = xs.map (kOf H) ∧ ∀ x ∈ xs, ∃ t, x = .ref t ∧ H t = some (.tup [.int (kOf H x).1, .int (kOf H x).2])
  | [], [], _ => ⟨rfl, fun x hx => by cases hx⟩
  | x :: xs, r :: rs, ⟨⟨a, e, q⟩, t⟩ => by
    subst e
    obtain ⟨h1, h2⟩ := tup_k t
    have hk : kOf H (.ref a) = r := by
      show (match H a with | some (.tup [.int i, .int j]) => (i, j) | _ => (0, 0)) = r
      rw [q]
      rfl
    refine ⟨by rw [List.map_cons, hk, ← h1], fun x hx => ?_⟩
    rcases List.mem_cons.mp hx with rfl | hx
    · refine ⟨a, rfl, ?_⟩
      rw [hk]
      exact q
    · exact h2 x hx
theorem k_tup {H : Hp} : ∀ {xs : List V}, (∀ x ∈ xs, ∃ t, x = .ref t ∧ H t = some (.tup [.int (kOf H x).1, .int (kOf H x).2])) → TupAt H tI xs (xs.map (kOf H))
  | [], _ => trivial
  | x :: xs, h => by
    obtain ⟨t, e, q⟩ := h x (List.mem_cons_self ..)
    exact ⟨⟨t, e, q⟩, k_tup fun y hy => h y (List.mem_cons_of_mem _ hy)⟩
def SortP (a : Addr) (H : Hp) (Q : VK) (_ : Seal Q) : Prop := ∃ xs rs, H a = some (.lst xs) ∧ TupAt H tI xs rs ∧ ∀ ys p H', Same H H' → H p = none → H' p = some (.lst ys) → TupAt H' tI ys (srt rs) → Q (.ref p) H'
def rSortPF : RC
  | [.ref a], H, Q => SortP a H Q .mk
  | _, _, _ => False
theorem f_sortP {a : Addr} {H : Hp} {Q : VK} : rSortPF [.ref a] H Q = SortP a H Q .mk := rfl
section
variable {X : Cx}
theorem call_sortPF : CallR X (.builtin "sorted") rSortPF := callImp cr_sortedPO fun vs H Q h => by
  unfold rSortPF at h
  split at h
  · rename_i a
    obtain ⟨xs, rs, h1, h2, k⟩ := h
    obtain ⟨e1, e2⟩ := tup_k h2
    refine ⟨a, xs, kOf H, rfl, SqL.of h1, e2, fun ys p hs hp hn => ?_⟩
    have hS : Same H (upd H p (.lst ys)) := sm_new hn
    refine k ys p _ hS hn upd_same ?_
    have hy : TupAt H tI ys (ys.map (kOf H)) := k_tup fun y hy => e2 y (hp.perm.mem_iff.mp hy)
    have hsrt : ys.map (kOf H) = srt rs := by
      refine srt_uniq ?_ ?_
      · rw [e1]
        exact hp.perm.map _
      · refine List.pairwise_map.mpr ?_
        refine List.Pairwise.imp ?_ hs
        intro a b hab
        unfold leP
        rw [show SrtO.lexB (kOf H b) (kOf H a) = false from hab]
        rfl
    rw [hsrt] at hy
    exact hy.mono (same_tup hS)
  · exact h.elim
end
theorem cm_l {i j : Int} (h1 : -(2 ^ 64) < i) (h2 : i < 2 ^ 64) : CMul i j := .inl ⟨h1, h2⟩
theorem cm_r {i j : Int} (h1 : -(2 ^ 64) < j) (h2 : j < 2 ^ 64) : CMul i j := .inr ⟨h1, h2⟩
theorem cd_i {i j : Int} (h1 : 0 < j) (h2 : j < 1073741824) : CDiv i j := ⟨h1, h2⟩
/-! ### in, not in: a sign in a text, an int in a list of ints -/
def inO (neg : Bool) (i : Int) (o : Option HO) (H : Hp) (Q : VK) : Prop := match o with
  | some (.lst xs) => (match asInts xs with | some ns => Q (.bl (xor neg (decide (i ∈ ns)))) H | none => False)
  | _ => False
def rInX (neg : Bool) : R2
  | .str a, .str z, H, Q => ∃ c, a = ⟨#[c]⟩ ∧ Q (.bl (xor neg (decide (c ∈ z.cps.toList)))) H
  | .int i, .ref p, H, Q => inO neg i (H p) H Q
  | _, _, _, _ => False
theorem inV_ints (i : Int) : ∀ ns : List Int, inV (.int i) (ns.map V.int) = decide (i ∈ ns)
  | [] => rfl
  | n :: r => by
    have h := inV_ints i r
    unfold inV at h ⊢
    rw [List.map_cons, List.any_cons, h]
    show ((n == i) || decide (i ∈ r)) = _
    rw [Bool.eq_iff_iff]
    simp only [Bool.or_eq_true, beq_iff_eq, decide_eq_true_eq, List.mem_cons]
    exact ⟨fun a => a.imp Eq.symm id, fun a => a.imp Eq.symm id⟩
theorem flat_ints : ∀ ns : List Int, (ns.map V.int).all flatV = true
  | [] => rfl
  | n :: r => by
    rw [List.map_cons, List.all_cons, flat_ints r]
    rfl
section
variable {X : Cx}
theorem op_inX : OpR X (compareOp .In) (rInX false) := opImp (L2.OpR.or op_in_sign op_in_seq) fun x y H Q h => by
  unfold rInX at h
  split at h
  · obtain ⟨c, rfl, q⟩ := h
    exact .inl ⟨c, _, rfl, rfl, by simpa using q⟩
  · unfold inO at h
    split at h
    · rename_i h0
      split at h
      · rename_i ns h1
        have e := asInts_some h1
        subst e
        refine .inr ⟨_, _, rfl, .inl (SqL.of h0), rfl, flat_ints ns, ?_⟩
        rw [inV_ints]
        simpa using h
      · exact h.elim
    · exact h.elim
  · exact h.elim
theorem op_notInX : OpR X (compareOp .NotIn) (rInX true) := opImp (L2.OpR.or op_notIn_sign op_notIn_seq) fun x y H Q h => by
  unfold rInX at h
  split at h
  · obtain ⟨c, rfl, q⟩ := h
    exact .inl ⟨c, _, rfl, rfl, by simpa using q⟩
  · unfold inO at h
    split at h
    · rename_i h0
      split at h
      · rename_i ns h1
        have e := asInts_some h1
        subst e
        refine .inr ⟨_, _, rfl, .inl (SqL.of h0), rfl, flat_ints ns, ?_⟩
        rw [inV_ints]
        simpa using h
      · exact h.elim
    · exact h.elim
  · exact h.elim
end
section
variable {H : Hp} {Q : VK} {neg : Bool} {n : Nat} {z : Str} {i : Int} {p : Addr}
theorem f_inX1 : rInX neg (.str (sL [n])) (.str z) H Q = Q (.bl (xor neg (decide (n ∈ z.cps.toList)))) H := by
  unfold rInX
  simp
theorem f_inX2 : rInX neg (.int i) (.ref p) H Q = inO neg i (H p) H Q := rfl
theorem f_inO {ns : List Int} : inO neg i (some (.lst (ns.map V.int))) H Q = Q (.bl (xor neg (decide (i ∈ ns)))) H := by
  unfold inO
  simp only [asInts_map]
end
/-! ### the last place; list(range(..)); an empty list -/
theorem ix_m1 {n : Nat} (h : 0 < n) : ixN n (-1) = some (n - 1) := by
  unfold ixN
  rw [if_neg (by omega), if_pos (by omega)]
  congr 1
  omega
theorem rg_eq (a b : Int) : rgV a b = ((List.range (b - a).toNat).map fun i => a + (i : Nat)).map V.int := by
  unfold rgV
  rw [List.map_map]
  rfl
section
variable {σ : L2.St} {H : Hp} {Q : VK} {ta tb : TE}
theorem w_lstRg {te : L2.St → Hp → (Int → Int → Hp → Prop) → Prop} : tLstRg te σ H Q = te σ H fun a b H1 => RgOk a b ∧ New H1 (.lst (rgV a b)) Q .mk := rfl
theorem w_rg1 {R : Int → Int → Hp → Prop} : tRg1 ta σ H R = ta σ H fun x H1 => ∃ n, x = .int n ∧ R 0 n H1 := rfl
def rg2O (x y : V) (H2 : Hp) (R : Int → Int → Hp → Prop) : Prop := ∃ i j, x = .int i ∧ y = .int j ∧ R i j H2
theorem w_rg2 {R : Int → Int → Hp → Prop} : tRg2 ta tb σ H R = ta σ H fun x H1 => tb σ H1 fun y H2 => rg2O x y H2 R := rfl
theorem f_rg2 {i j : Int} {R : Int → Int → Hp → Prop} : rg2O (.int i) (.int j) H R = R i j H := by
  unfold rg2O
  simp
end
section
variable {K : PySem.W.Frag} {H : Hp} {Q : VK} {x y : V}
theorem sd_in {neg : Bool} {d e : PyData} {n : Nat} (h1 : Dp K H x d) (h2 : Dp K H y e) (ok : okD n d) (ok2 : okD n e) (hn : n ≤ 64) (b : Bool) (hb : PyData.eqv d e = b) (q : Q (.bl (xor neg b)) H) : SD K neg x y H Q .mk := by
  subst hb
  exact ⟨d, e, h1, h2, ok.shaped hn, ok2.shaped hn, q⟩
def pairI (r : Int × Int) : PyData := .tuple [.int r.1, .int r.2]
theorem dp_pairsI {p : Addr} {xs : List V} {rs : List (Int × Int)} (h : H p = some (.lst xs)) (t : TupAt H tI xs rs) : Dp K H (.ref p) (.list (rs.map pairI)) :=
  .lst (SqL.of h) (dpAll_tup (g := fun r : Int × Int => [.int r.1, .int r.2]) (fun _ => .cons (.int _) (.cons (.int _) .nil)) t)
theorem ok_pairsI (rs : List (Int × Int)) : okD 2 (.list (rs.map pairI)) := ok_list fun d hd => by
  obtain ⟨r, _, rfl⟩ := List.mem_map.mp hd
  refine ok_tup fun e he => ?_
  simp only [List.mem_cons, List.not_mem_nil, or_false] at he
  rcases he with rfl | rfl <;> exact ok_int 0 _
theorem eqv_nil (rs : List (Int × Int)) : PyData.eqv (.list (rs.map pairI)) (.list []) = rs.isEmpty := by
  cases rs with
  | nil => rfl
  | cons a r => rfl
/-- a list of pairs against [] -/
theorem sd_nil {neg : Bool} {p q : Addr} {xs : List V} {rs : List (Int × Int)} (h : H p = some (.lst xs)) (t : TupAt H tI xs rs) (h2 : H q = some (.lst [])) (k : Q (.bl (xor neg rs.isEmpty)) H) : SD K neg (.ref p) (.ref q) H Q .mk :=
  sd_in (dp_pairsI h t) (.lst (SqL.of h2) .nil) (ok_pairsI rs) (okD.mono (n := 1) (ok_list (fun d hd => by cases hd)) (by decide)) (by decide) _ (eqv_nil rs) k
end
/-! ### a list of tuples changed at its end -/
theorem TupAt.last {α : Type} {H : Hp} {f : α → List V} {xs : List V} {rs : List α} (t : TupAt H f xs rs) (h : rs ≠ []) : ∃ ys a ss r, xs = ys ++ [.ref a] ∧ rs = ss ++ [r] ∧ TupAt H f ys ss ∧ H a = some (.tup (f r)) := by
  induction xs generalizing rs with
  | nil =>
    cases rs with
    | nil => exact absurd rfl h
    | cons r rs => exact t.elim
  | cons x xs ih =>
    cases rs with
    | nil => exact t.elim
    | cons r rs =>
      obtain ⟨⟨a, rfl, q⟩, t⟩ := t
      by_cases h2 : rs = []
      · subst h2
        cases xs with
        | nil => exact ⟨[], a, [], r, rfl, rfl, trivial, q⟩
        | cons y ys => exact t.elim
      · obtain ⟨ys, b, ss, r2, rfl, rfl, t2, q2⟩ := ih t h2
        exact ⟨.ref a :: ys, b, r :: ss, r2, rfl, rfl, ⟨⟨a, rfl, q⟩, t2⟩, q2⟩
end CM

namespace CM
open PySem PySem.Spec PyProof.Rows L2
/-! ### the head of a def with defaults -/
section
variable {K : PySem.W.Frag} {h : Heap} {mg : Str → Option Value}
abbrev DfDOf (_ : K.In h) (mg : Str → Option Value) (x : Str) (st : Stmt) (ps : List Str) (dvs : List V) : Prop := DfD K mg x st ps dvs
theorem dfD_mk {x : Str} {st : Stmt} {ps : List Str} {dvs : List V} {f T : Addr} {oc : Value} {od an : Option Addr} {osl : Array (Option Value)} {kV doc pm cdv ct : Value} {o : Obj} {its : List Value} {m : Nat} (X : K.In h) (G : h.Ns mainGlobals mg) (a : PySem.W.nsIn K mainGlobals x = some (some (.ref f)))
    (l : K.lookup f = some ⟨oc, od, .func (PySem.W.fnOf x x (defArgs st) (defBody st) (defScope st) (.ref T) kV doc pm an cdv ct), osl⟩) (c : PySem.W.codeIn K cdv x = true) (k : PySem.W.keepIn K (.ref f) = true)
    (lT : K.lookup T = some o) (oT : o.data = .seq its.toArray m) (hv : Vals dvs its) (hd : dvs ≠ []) (hle : dvs.length ≤ ps.length)
    (hb : ∀ (T : Addr) (kV doc pm : Value) (an : Option Addr) (cdv ct : Value) (us its : List Value), us.length = ps.length - dvs.length → its.length = dvs.length →
      ∃ k, bindArgs (PySem.W.fnOf x x (defArgs st) (defBody st) (defScope st) (.ref T) kV doc pm an cdv ct) ⟨us, []⟩ = seqItems? (.ref T) >>= k ∧ k (some its.toArray) = pure (ps.zip (us ++ its.drop 0)))
    (hb2 : ∀ (T : Addr) (kV doc pm : Value) (an : Option Addr) (cdv ct : Value) (us its : List Value), us.length = ps.length → its.length = dvs.length →
      ∃ k, bindArgs (PySem.W.fnOf x x (defArgs st) (defBody st) (defScope st) (.ref T) kV doc pm an cdv ct) ⟨us, []⟩ = seqItems? (.ref T) >>= k ∧ k (some its.toArray) = pure (ps.zip (us ++ its.drop dvs.length))) : DfD K mg x st ps dvs := by
  have F : FunD K x x (defArgs st) (defBody st) (defScope st) dvs [] f (PySem.W.fnOf x x (defArgs st) (defBody st) (defScope st) (.ref T) kV doc pm an cdv ct) :=
    ⟨⟨oc, od, .ref T, kV, doc, pm, an, cdv, ct, osl, rfl, l, c, .inr ⟨hd, T, o, its, m, rfl, lT, oT, hv⟩, .inl rfl⟩, k⟩
  refine ⟨f, _, PySem.W.mg_of X G a, F, ?_, ?_⟩
  · obtain ⟨ds, v, b⟩ := F.binds1 ps.length dvs.length hd (by omega) hb2
    rw [List.drop_length] at v
    cases v
    exact b
  · exact F.binds1 (ps.length - dvs.length) 0 hd (by omega) hb
end
end CM

namespace CM
open PySem PySem.Spec PyProof.Rows L2

theorem z_0 : Str.ofString "not such a number" = sL [110, 111, 116, 32, 115, 117, 99, 104, 32, 97, 32, 110, 117, 109, 98, 101, 114] := by decide +kernel
theorem z_1 : Str.ofString "not a greatest speed" = sL [110, 111, 116, 32, 97, 32, 103, 114, 101, 97, 116, 101, 115, 116, 32, 115, 112, 101, 101, 100] := by decide +kernel
theorem z_2 : Str.ofString "not a number of ticks" = sL [110, 111, 116, 32, 97, 32, 110, 117, 109, 98, 101, 114, 32, 111, 102, 32, 116, 105, 99, 107, 115] := by decide +kernel
theorem z_3 : Str.ofString "law_cabmeters_k26_ways_of_many_ticks" = sL [108, 97, 119, 95, 99, 97, 98, 109, 101, 116, 101, 114, 115, 95, 107, 50, 54, 95, 119, 97, 121, 115, 95, 111, 102, 95, 109, 97, 110, 121, 95, 116, 105, 99, 107, 115] := by decide +kernel
local macro_rules | `(tactic| walk_at "wp") => `(tactic| simp only [w_var, w_c, w_seq, w_next, w_brk, w_cont, w_drop, w_ret, w_retN, w_ifs, w_never, w_asg, w_aug, w_gname, w_gnil, w_gcons, w_gsub, w_op, w_un, w_test, w_b, w_and, w_or, w_not, w_andV, w_orV, w_notV, w_if, w_chain, w_nil, w_cons, w_tup, w_lst, w_cb, w_call, w_part, w_nopart, w_sl, w_lm0, w_lm, w_m0, w_m1, w_fmt, f_fmt1, f_fmt2, w_js0, w_js, f_js, emptyS, w_yes, w_isN, w_notN, w_isB, w_notB, w_rU, w_for, w_rng1, w_rng2, f_rng1, f_rng2, w_ilist, w_itup, w_istr, w_lc, w_wipe0, w_wipe, w_gtup, w_gtO,
  f_add1, f_add2, f_add3, f_addO, f_iadd1, f_iadd2, f_sub, f_mul1, f_mul2, f_mul3, f_mulO, f_fdiv, f_mod, f_pow, f_lt, f_le, f_gt, f_ge, f_eq1, f_eq2, f_eq3, f_eq4, f_eq5, f_eq6, f_eq7, f_eq8, f_eq9, f_eq10, f_ne1, f_ne2, f_ne3, f_ne4, f_ne5, f_ne6, x_eq1, x_eq2, x_eq3, x_eq4, x_eq5, x_eq6, x_eq7, x_eq8, x_eq9, x_eq10, x_eq11, x_eq12, x_eq13, x_ne1, x_ne2, x_ne3, x_ne4, x_ne5, x_ne6, x_ne7, x_ne8, x_ne9, w_callV, f_sortP, w_lstRg, w_rg1, w_rg2, f_rg2, w_star, f_star, f_starO1, f_starO2, f_in, f_notIn, f_inX1, f_inX2, f_inO, f_ix1, f_ix2, f_at1, f_at2, f_sl1, f_slO, f_sl2, f_set, f_setO, f_len1, f_len2, f_lenO1, f_lenO2, f_abs, f_max1, f_max2, f_min1, f_min2, f_maxO, f_minO, f_int1, f_int2, f_int3, f_str, f_list, f_listO1, f_listO2, f_tup, f_tupO1, f_tupO2, f_sum, f_sumO, f_all, f_allO, f_isi, f_ty1, f_ty2, f_ty3, f_ty4, f_ty5, f_tyO1, f_tyO2, f_isL, f_isLO, f_app, f_appO, f_pop1, f_pop2, f_popO, f_popAtO, f_clear, f_clearO, f_ext, f_extO, f_join, f_joinO, f_split, okTy, subTy, tl_s, cps_s, len_sL, List.length_append, sL_app, upd_same, upd_upd, at_nn, ix_nn, Int.reduceLE, Int.reduceLT, Int.reduceToNat, Int.reduceNeg, Int.cast_ofNat_Int, Int.toNat_natCast, Int.natCast_nonneg, Int.toNat_zero, Int.toNat_one, List.eraseIdx_cons_zero, List.eraseIdx_cons_succ, z_0, z_1, z_2, z_3,
  start_eq, nones0, nonesS, List.map_cons, List.map_nil, List.length_cons, List.length_nil, Nat.reduceAdd, Nat.reduceSub, Nat.zero_add, List.cons_append, List.nil_append, List.append_nil, List.getElem?_cons_zero, List.getElem?_cons_succ, List.set_cons_zero, List.set_cons_succ, Option.some.injEq, exists_eq_left, exists_eq_left', exists_and_left, exists_eq', and_true, true_and, V.str.injEq, V.int.injEq, V.bl.injEq, V.ref.injEq, List.cons.injEq, if_true, if_false, ite_true, ite_false, reduceIte, Bool.not_true, Bool.not_false, List.isEmpty_nil, Bool.xor_true, Bool.true_xor, Bool.xor_false, Bool.false_xor, Bool.false_eq_true, decide_true, decide_false, Bool.or_true, Bool.true_or, Bool.or_false, Bool.false_or, beq_self_eq_true, String.reduceBEq, forall_const, implies_true, reduceCtorEq, false_and, and_false, or_false, false_or, exists_const, exists_false, L2.cxOf, decide_eq_true_eq, Bool.not_eq_true', decide_eq_false_iff_not])
local macro_rules | `(tactic| walk_at "wps") => `(tactic| simp only [w_var, w_c, w_seq, w_next, w_brk, w_cont, w_drop, w_ret, w_retN, w_ifs, w_never, w_asg, w_aug, w_gname, w_gnil, w_gcons, w_gsub, w_op, w_un, w_test, w_b, w_and, w_or, w_not, w_andV, w_orV, w_notV, w_if, w_chain, w_nil, w_cons, w_tup, w_lst, w_cb, w_call, w_part, w_nopart, w_sl, w_lm0, w_lm, w_m0, w_m1, w_fmt, f_fmt1, f_fmt2, w_js0, w_js, f_js, emptyS, w_yes, w_isN, w_notN, w_isB, w_notB, w_rU, w_for, w_rng1, w_rng2, f_rng1, f_rng2, w_ilist, w_itup, w_istr, w_lc, w_wipe0, w_wipe, w_gtup, w_gtO,
  f_add1, f_add2, f_add3, f_addO, f_iadd1, f_iadd2, f_sub, f_mul1, f_mul2, f_mul3, f_mulO, f_fdiv, f_mod, f_pow, f_lt, f_le, f_gt, f_ge, f_eq1, f_eq2, f_eq3, f_eq4, f_eq5, f_eq6, f_eq7, f_eq8, f_eq9, f_eq10, f_ne1, f_ne2, f_ne3, f_ne4, f_ne5, f_ne6, x_eq1, x_eq2, x_eq3, x_eq4, x_eq5, x_eq6, x_eq7, x_eq8, x_eq9, x_eq10, x_eq11, x_eq12, x_eq13, x_ne1, x_ne2, x_ne3, x_ne4, x_ne5, x_ne6, x_ne7, x_ne8, x_ne9, w_callV, f_sortP, w_lstRg, w_rg1, w_rg2, f_rg2, w_star, f_star, f_starO1, f_starO2, f_in, f_notIn, f_inX1, f_inX2, f_inO, f_ix1, f_ix2, f_at1, f_at2, f_sl1, f_slO, f_sl2, f_set, f_setO, f_len1, f_len2, f_lenO1, f_lenO2, f_abs, f_max1, f_max2, f_min1, f_min2, f_maxO, f_minO, f_int1, f_int2, f_int3, f_str, f_list, f_listO1, f_listO2, f_tup, f_tupO1, f_tupO2, f_sum, f_sumO, f_all, f_allO, f_isi, f_ty1, f_ty2, f_ty3, f_ty4, f_ty5, f_tyO1, f_tyO2, f_isL, f_isLO, f_app, f_appO, f_pop1, f_pop2, f_popO, f_popAtO, f_clear, f_clearO, f_ext, f_extO, f_join, f_joinO, f_split, okTy, subTy, tl_s, cps_s, len_sL, List.length_append, sL_app, upd_same, upd_upd, at_nn, ix_nn, Int.reduceLE, Int.reduceLT, Int.reduceToNat, Int.reduceNeg, Int.cast_ofNat_Int, Int.toNat_natCast, Int.natCast_nonneg, Int.toNat_zero, Int.toNat_one, List.eraseIdx_cons_zero, List.eraseIdx_cons_succ, z_0, z_1, z_2, z_3,
  start_eq, nones0, nonesS, List.map_cons, List.map_nil, List.length_cons, List.length_nil, Nat.reduceAdd, Nat.reduceSub, Nat.zero_add, List.cons_append, List.nil_append, List.append_nil, List.getElem?_cons_zero, List.getElem?_cons_succ, List.set_cons_zero, List.set_cons_succ, Option.some.injEq, exists_eq_left, exists_eq_left', exists_and_left, exists_eq', and_true, true_and, V.str.injEq, V.int.injEq, V.bl.injEq, V.ref.injEq, List.cons.injEq, if_true, if_false, ite_true, ite_false, reduceIte, Bool.not_true, Bool.not_false, List.isEmpty_nil, Bool.xor_true, Bool.true_xor, Bool.xor_false, Bool.false_xor, Bool.false_eq_true, decide_true, decide_false, Bool.or_true, Bool.true_or, Bool.or_false, Bool.false_or, beq_self_eq_true, String.reduceBEq, forall_const, implies_true, reduceCtorEq, false_and, and_false, or_false, false_or, exists_const, exists_false, L2.cxOf, decide_eq_true_eq, Bool.not_eq_true', decide_eq_false_iff_not, *])
local macro_rules | `(tactic| walk_at "go1") => `(tactic| first | walk_at "wp" | (refine And.intro ?_ ?_; (focus (first | omega | (apply cm_l <;> omega) | (apply cm_r <;> omega) | (apply cd_i <;> omega)))) | (refine ite2 ?_ ?_; (focus (intro hh; exfalso; omega)); intro _) | (refine ite2 ?_ ?_; rotate_left; (focus (intro hh; exfalso; omega)); intro _))
local macro_rules | `(tactic| walk_at "go") => `(tactic| repeat walk_at "go1")

def top (i : Nat) : Stmt := PySem.Challenge.pw_cabmeters_k26_ways_of_many_ticks.main.body.getD i (.Pass ⟨0, 0, 0, 0⟩)
structure Txt (K : PySem.W.Frag) (mg : Str → Option Value) : Prop where
  n_isinstance : mg "isinstance" = none
  n_str : mg "str" = none
  n_int : mg "int" = none
  n_bool : mg "bool" = none
  n_list : mg "list" = none
  n_len : mg "len" = none
  n_abs : mg "abs" = none
  n_min : mg "min" = none
  n_max : mg "max" = none
  n_sum : mg "sum" = none
  n_range : mg "range" = none
  n_sorted : mg "sorted" = none
  g_SPEEDS : ∃ t, mg "SPEEDS" = some (.int 10 t)
  g_MOST_TICKS : ∃ t, mg "MOST_TICKS" = some (.int 400 t)
  g_GREATEST_TIME : ∃ t, mg "GREATEST_TIME" = some (.int 60 t)
  g_GREATEST_RATE : ∃ t, mg "GREATEST_RATE" = some (.int 6 t)
  g_GREATEST_SPEED : ∃ t, mg "GREATEST_SPEED" = some (.int 9 t)

/-! ### the bag and its draws -/
theorem i01 (c : Prop) [Decidable c] : -(2 ^ 64) < (if c then (1 : Int) else 0) ∧ (if c then (1 : Int) else 0) < 2 ^ 64 := by
  split <;> decide
theorem n01 (c : Prop) [Decidable c] (x : Int) (h : 0 ≤ x) : 0 ≤ x * (if c then (1 : Int) else 0) := by
  split
  · omega
  · omega
section
variable {P : Program} {w : World} {K : PySem.W.Frag} {mg : Str → Option Value} {base : Heap}
abbrev s_law_bag : Stmt := top 26
theorem sc_law_bag : FnScope ["_law_script"] ["_law_script"] (defScope s_law_bag) := ⟨rfl, rfl, rfl, by decide +kernel, rfl, by decide +kernel, by decide +kernel⟩
def sp_law_bag (K : PySem.W.Frag) : Sp := fun vs H Q _ => ∃ (a : Addr) (ns : List Int), vs = [.ref a] ∧ SqL K H a (ns.map V.int) ∧ ∀ b sp H', Same H H' → H b = none → H sp = none → Bag H' b sp → Q (.ref b) H'
theorem ok_law_bag (D : Df K mg "_law_bag" s_law_bag ["_law_script"]) (T : Txt K mg) : Fn P w K mg base "_law_bag" 1 ["_law_script"] (sp_law_bag K) := by
  refine D.ok sc_law_bag (fun vs H Q E h => ?_) (fun f cdv A outer s H vs Q E hr h => ?_)
  · obtain ⟨a, ns, rfl, _⟩ := h
    rfl
  · obtain ⟨a, ns, rfl, hS, k⟩ := h
    refine ⟨_, (pss_one (ps_ret (pe_lst (pa_cons (pe_callTy call_list_of (by rfl) T.n_list (by decide +kernel) (pa_cons (pv 0) pa_nil)) (pa_cons pe_int (pa_cons pe_int (pa_cons pe_int (pa_cons pe_int pa_nil)))))))), ?_⟩
    walk_at "wp"
    refine ⟨_, .inl hS, fun sp hsp => ?_⟩
    refine ⟨by decide, fun b hb => ?_⟩
    have hne : sp ≠ b := fun z => by
      rw [z, upd_same] at hb
      cases hb
    have hb0 : H b = none := by
      rw [upd_ne hne.symm] at hb
      exact hb
    refine k b sp _ (sm_mut (sm_new hsp) hb0) hb0 hsp ⟨hne, ns, 0, 0, 17, 0, upd_same, by rw [upd_ne hne, upd_same], by decide, by decide⟩
abbrev s_law_draw : Stmt := top 27
theorem sc_law_draw : FnScope ["_law_bag_here", "_law_size", "_law_cell", "_law_digit", "_law_mixed_here"] ["_law_bag_here", "_law_size"] (defScope s_law_draw) := ⟨rfl, rfl, rfl, by decide +kernel, rfl, by decide +kernel, by decide +kernel⟩
def sp_law_draw : Sp := fun vs H Q _ => ∃ (b sp : Addr) (n : Int), vs = [.ref b, .int n] ∧ Bag H b sp ∧ 0 < n ∧ n < 1073741824 ∧ ∀ r H', 0 ≤ r → r < n → Bag H' b sp → (∀ q, q ≠ b → H' q = H q) → Q (.int r) H'
theorem ok_law_draw (D : Df K mg "_law_draw" s_law_draw ["_law_bag_here", "_law_size"]) (T : Txt K mg) : Fn P w K mg base "_law_draw" 1 ["_law_bag_here", "_law_size"] sp_law_draw := by
  refine D.ok sc_law_draw (fun vs H Q E h => ?_) (fun f cdv A outer s H vs Q E hr h => ?_)
  · obtain ⟨b, sp, n, rfl, _⟩ := h
    rfl
  · obtain ⟨b, sp, n, rfl, ⟨hne, ns, i, big, mix, cnt, hb, hsp, hi, hbig⟩, hn0, hn1, k⟩ := h
    have cm : ∀ x y : Int, -(2 ^ 64) < y ∧ y < 2 ^ 64 → CMul x y := fun x y h => .inr h
    have cp : ∀ x m k : Int, 0 < m → m < 2 ^ 60 → 0 ≤ k → k ≤ 1000 → CPow (x % m) k := fun x m k h1 h2 h3 h4 => by
      have a := Int.emod_nonneg x (show m ≠ 0 by omega)
      have b := Int.emod_lt_of_pos x h1
      exact ⟨h3, by omega, by omega⟩
    have fin : ∀ (x i' big' mix' cnt' : Int), 0 ≤ i' → 0 ≤ big' → Q (.int (x % n)) (upd H b (.lst [.ref sp, .int i', .int big', .int mix', .int cnt'])) := fun x i' big' mix' cnt' h1 h2 =>
      k _ _ (Int.emod_nonneg x (by omega)) (Int.emod_lt_of_pos x hn0) ⟨hne, ns, i', big', mix', cnt', upd_same, by rw [upd_ne hne]; exact hsp, h1, h2⟩ fun q hq => upd_ne hq
    have tail : ∀ (i' big' mix' cnt' : Int), 0 ≤ i' → 0 ≤ big' → (0 < n ∧ if 0 < big' then CDiv big' n ∧ Q (.int (big' % n)) (upd H b (.lst [.ref sp, .int i', .int (big' / n), .int mix', .int cnt'])) else
        CMul cnt' 40692 ∧ CPow ((mix' + cnt' * 40692) % 2147483647) 3 ∧ CMul cnt' 16807 ∧ CPow ((((mix' + cnt' * 40692) % 2147483647) ^ 3 + cnt' * 16807 + 7) % 2147483629) 2 ∧
        CDiv (((((mix' + cnt' * 40692) % 2147483647) ^ 3 + cnt' * 16807 + 7) % 2147483629) ^ 2 % 2147483587) 8 ∧ 0 < n ∧
        Q (.int (((((mix' + cnt' * 40692) % 2147483647) ^ 3 + cnt' * 16807 + 7) % 2147483629) ^ 2 % 2147483587 / 8 % n)) (upd H b (.lst [.ref sp, .int i', .int big', .int mix', .int cnt']))) := fun i' big' mix' cnt' h1 h2 => by
      refine ⟨hn0, ite2 (fun h3 => ?_) (fun h3 => ?_)⟩
      · exact ⟨⟨hn0, hn1⟩, fin _ _ _ _ _ h1 (Int.ediv_nonneg h2 (by omega))⟩
      · exact ⟨cm _ _ (by decide), cp _ _ _ (by decide) (by decide) (by decide) (by decide), cm _ _ (by decide), cp _ _ _ (by decide) (by decide) (by decide) (by decide), ⟨by decide, by decide⟩, hn0, fin _ _ _ _ _ h1 h2⟩
    refine ⟨_, (pss_cons (ps_asg (pe_op op_addF (pe_ix ix_F (pv 0) pe_int (fun _ _ => rfl)) pe_int) (pg_sub (pv 0) pe_int set_F))
      (pss_cons (ps_if (PW.pt (pw_and (pt_cmpR (op_eqX (K := K) hr.units) (pe_ix ix_F (pv 0) pe_int (fun _ _ => rfl)) pe_int (nomark _)) (pw_and1 (pt_cmpR op_ltF (pe_ix ix_F (pv 0) pe_int (fun _ _ => rfl)) (pe_callB call_lenF (by rfl) T.n_len (by decide +kernel) (pa_cons (pe_ix ix_F (pv 0) pe_int (fun _ _ => rfl)) pa_nil)) (nomark _))))) (pss_cons (ps_set (i := 2) sc_law_draw.nd rfl (Or.inl rfl) (pe_ix ix_F (pe_ix ix_F (pv 0) pe_int (fun _ _ => rfl)) (pe_ix ix_F (pv 0) pe_int (fun _ _ => rfl)) (fun _ _ => rfl)))
      (pss_cons (ps_asg (pe_op op_addF (pe_ix ix_F (pv 0) pe_int (fun _ _ => rfl)) pe_int) (pg_sub (pv 0) pe_int set_F))
      (pss_cons (ps_asg (pe_op op_mulF (pe_op op_addF (pe_op op_mulF pe_int (pe_callB call_absF (by rfl) T.n_abs (by decide +kernel) (pa_cons (pv 2) pa_nil))) (pe_callTy call_intF' (by rfl) T.n_int (by decide +kernel) (pa_cons (pe_cmpR op_ltF (pv 2) pe_int (nomark _)) pa_nil))) (pe_callTy call_intF' (by rfl) T.n_int (by decide +kernel) (pa_cons (pe_cmpR op_geF (pe_callB call_absF (by rfl) T.n_abs (by decide +kernel) (pa_cons (pv 2) pa_nil)) (pe_op op_powF pe_int pe_int) (nomark _)) pa_nil))) (pg_sub (pv 0) pe_int set_F))
      (pss_one (ps_asg (pe_op op_modF (pe_callTy call_intF' (by rfl) T.n_int (by decide +kernel) (pa_cons (pe_op op_addF (pe_op op_addF (pe_op op_mulF (pe_ix ix_F (pv 0) pe_int (fun _ _ => rfl)) pe_int) (pe_op op_mulF (pv 2) pe_int)) pe_int) pa_nil)) pe_int) (pg_sub (pv 0) pe_int set_F)))))) pss_nil)
      (pss_cons (ps_set (i := 3) sc_law_draw.nd rfl (Or.inl rfl) (pe_op op_modF (pe_callTy call_intF' (by rfl) T.n_int (by decide +kernel) (pa_cons (pe_ix ix_F (pv 0) pe_int (fun _ _ => rfl)) pa_nil)) (pv 1)))
      (pss_cons (ps_if (pt_cmpR op_gtF (pe_ix ix_F (pv 0) pe_int (fun _ _ => rfl)) pe_int (nomark _)) (pss_cons (ps_asg (pe_op op_fdivF (pe_ix ix_F (pv 0) pe_int (fun _ _ => rfl)) (pv 1)) (pg_sub (pv 0) pe_int set_F))
      (pss_one (ps_ret (pv 3)))) pss_nil)
      (pss_cons (ps_set (i := 4) sc_law_draw.nd rfl (Or.inl rfl) (pe_op op_modF (pe_callTy call_intF' (by rfl) T.n_int (by decide +kernel) (pa_cons (pe_op op_addF (pe_ix ix_F (pv 0) pe_int (fun _ _ => rfl)) (pe_op op_mulF (pe_ix ix_F (pv 0) pe_int (fun _ _ => rfl)) pe_int)) pa_nil)) pe_int))
      (pss_cons (ps_set (i := 4) sc_law_draw.nd rfl (Or.inl rfl) (pe_op op_modF (pe_callTy call_intF' (by rfl) T.n_int (by decide +kernel) (pa_cons (pe_op op_addF (pe_op op_addF (pe_op op_powF (pv 4) pe_int) (pe_op op_mulF (pe_ix ix_F (pv 0) pe_int (fun _ _ => rfl)) pe_int)) pe_int) pa_nil)) pe_int))
      (pss_one (ps_ret (pe_op op_modF (pe_op op_fdivF (pe_op op_modF (pe_callTy call_intF' (by rfl) T.n_int (by decide +kernel) (pa_cons (pe_op op_powF (pv 4) pe_int) pa_nil)) pe_int) pe_int) (pv 1)))))))))), ?_⟩
    walk_at "wp"
    rw [hb]
    walk_at "wp"
    rw [hb]
    walk_at "wp"
    refine ite2 (fun h1 => ?_) (fun h1 => ?_)
    · rw [upd_ne hne, hsp]
      walk_at "wp"
      rw [List.length_map]
      refine ite2 (fun h2 => ?_) (fun h2 => ?_)
      · rw [upd_ne hne, hsp]
        have hlt : i.toNat < ns.length := by omega
        have hc : atI (List.map V.int ns) i = some (.int ns[i.toNat]) := by
          rw [at_nn hi, List.getElem?_map, List.getElem?_eq_getElem hlt]
          rfl
        walk_at "wp"
        rw [hc]
        generalize ns[i.toNat] = cell
        walk_at "wp"
        refine ⟨.inl (by decide), ⟨by decide, by decide, by decide⟩, .inr (i01 _), cm _ _ (by decide), cm _ _ (by decide), ?_⟩
        refine tail (i + 1) _ _ _ (by omega) (n01 _ _ ?_)
        split <;> omega
      · exact tail i big mix (cnt + 1) hi hbig
    · exact tail i big mix (cnt + 1) hi hbig
end

/-! ### mixed, drawn trips -/
theorem perm_erase {α : Type} : ∀ {l : List α} {j : Nat} (h : j < l.length), (l[j] :: l.eraseIdx j).Perm l
  | a :: l, 0, _ => List.Perm.refl _
  | a :: l, j + 1, h => ((List.Perm.swap a (l[j]'(by simpa using h)) (l.eraseIdx j))).trans (List.Perm.cons a (perm_erase (l := l) (j := j) (by simpa using h)))
section
variable {P : Program} {w : World} {K : PySem.W.Frag} {mg : Str → Option Value} {base : Heap}
abbrev s_law_mixed : Stmt := top 28
theorem sc_law_mixed : FnScope ["_law_bag_here", "_law_items", "_law_left", "_law_found", "_law_k"] ["_law_bag_here", "_law_items"] (defScope s_law_mixed) := ⟨rfl, rfl, rfl, by decide +kernel, rfl, by decide +kernel, by decide +kernel⟩
def sp_law_mixed : Sp := fun vs H Q _ => ∃ (b sp it : Addr) (xs : List V), vs = [.ref b, .ref it] ∧ Bag H b sp ∧ H it = some (.lst xs) ∧ it ≠ b ∧ xs.length < 1000000 ∧ ∀ p ys H', H p = none → H' p = some (.lst ys) → ys.Perm xs → Bag H' b sp → Kp b H H' → Q (.ref p) H'
theorem ok_law_mixed (D : Df K mg "_law_mixed" s_law_mixed ["_law_bag_here", "_law_items"]) (F_law_draw : Fn P w K mg base "_law_draw" 1 ["_law_bag_here", "_law_size"] sp_law_draw) (T : Txt K mg) : Fn P w K mg base "_law_mixed" 2 ["_law_bag_here", "_law_items"] sp_law_mixed := by
  refine D.ok sc_law_mixed (fun vs H Q E h => ?_) (fun f cdv A outer s H vs Q E hr h => ?_)
  · obtain ⟨b, sp, it, xs, rfl, _⟩ := h
    rfl
  · obtain ⟨b, sp, it, xs, rfl, B, hit, hne, hlen, k⟩ := h
    refine ⟨_, (pss_cons (ps_set (i := 2) sc_law_mixed.nd rfl (Or.inl rfl) (pe_callTy call_listF (by rfl) T.n_list (by decide +kernel) (pa_cons (pv 1) pa_nil)))
      (pss_cons (ps_set (i := 3) sc_law_mixed.nd rfl (Or.inl rfl) (pe_lst pa_nil))
      (pss_cons (ps_for PassesOwn.never rfl (pi_range1 (by rfl) T.n_range (pa_cons (pe_callB call_lenF (by rfl) T.n_len (by decide +kernel) (pa_cons (pv 1) pa_nil)) pa_nil)) (pg_name (i := 4) sc_law_mixed.nd rfl (Or.inl rfl)) (pss_one (ps_expr (pe_lm PySem.F.slot_list_append PySem.F.type_list_append mt_appF (pv 3) (pa_cons (pe_lm PySem.F.slot_list_pop PySem.F.type_list_pop mt_popF (pv 2) (pa_cons (pe_fn F_law_draw (hr.mono (by decide)) rfl (pa_cons (pv 0) (pa_cons (pe_callB call_lenF (by rfl) T.n_len (by decide +kernel) (pa_cons (pv 2) pa_nil)) pa_nil))) pa_nil)) pa_nil)))))
      (pss_one (ps_ret (pv 3)))))), ?_⟩
    walk_at "go"
    rw [hit]
    walk_at "go"
    refine new_in fun lf H1 hlf S1 h1 => ?_
    walk_at "go"
    refine new_in fun fd H2 hfd S2 h2 => ?_
    have n1 := (B.ne hlf)
    have n2 := ((B.same S1).ne hfd)
    have n3 : lf ≠ fd := ne_of_none h1 hfd
    walk_at "go"
    rw [S2 _ _ (S1 _ _ hit)]
    walk_at "go"
    refine lp_range (fun i σ H' => ∃ ls fs v, σ = [some (.ref b), some (.ref it), some (.ref lf), some (.ref fd), v] ∧ Bag H' b sp ∧ H' lf = some (.lst ls) ∧ H' fd = some (.lst fs) ∧ (fs ++ ls).Perm xs ∧ fs.length = i ∧ Kp b H H') ⟨xs, [], none, rfl, (B.same S1).same S2, S2 _ _ h1, h2, List.Perm.refl _, rfl, Kp.of_same (S1.trans S2)⟩ ?_ ?_
    · rintro i σ H' hi ⟨ls, fs, v, rfl, B3, hL, hF, hP, hfl, Kp3⟩
      have hpl := hP.length_eq
      rw [List.length_append] at hpl
      walk_at "go"
      simp only [hL, hF]
      walk_at "go"
      refine ⟨b, sp, _, rfl, B3, by omega, by omega, fun r H4 hr0 hr1 B4 e4 => ?_⟩
      obtain ⟨j, rfl⟩ : ∃ j : Nat, r = j := ⟨r.toNat, by omega⟩
      have hj : j < ls.length := by omega
      walk_at "go"
      rw [e4 lf n1.1, hL]
      walk_at "go"
      rw [List.getElem?_eq_getElem hj]
      walk_at "go"
      rw [upd_ne n3.symm, e4 fd n2.1, hF]
      walk_at "go"
      refine ⟨ls.eraseIdx j, fs ++ [ls[j]], some (.int (0 + (i : Int))), rfl, (B4.mut n1.1 n1.2).mut n2.1 n2.2, by rw [upd_ne n3, upd_same], upd_same, ?_, by rw [List.length_append, hfl]; rfl, ?_⟩
      · rw [List.append_assoc]
        exact (List.Perm.append_left fs (perm_erase hj)).trans hP
      · intro q o hq e
        have e3 := Kp3 q o hq e
        rw [upd_ne (ne_of_none e (S1.free hfd)), upd_ne (ne_of_none e hlf), e4 q hq]
        exact e3
    · rintro σ H' ⟨ls, fs, v, rfl, B3, hL, hF, hP, hfl, Kp3⟩
      walk_at "go"
      have hpl := hP.length_eq
      rw [List.length_append, hfl] at hpl
      have hl0 : ls = [] := List.length_eq_zero_iff.mp (by omega)
      subst hl0
      rw [List.append_nil] at hP
      exact k fd fs H' (S1.free hfd) hF hP B3 Kp3
end

/-! ### numbers within bounds -/
def isWholeB : V → Bool
  | .int _ => true
  | _ => false
def btwB : V → Int → Int → Bool
  | .int i, a, b => decide (a ≤ i) && decide (i ≤ b)
  | _, _, _ => false
section
variable {P : Program} {w : World} {K : PySem.W.Frag} {mg : Str → Option Value} {base : Heap}
theorem btw_i {i a b : Int} : btwB (.int i) a b = (decide (a ≤ i) && decide (i ≤ b)) := rfl
theorem ty_ref {p : Addr} {H : Hp} {U : String} (h : tyF (.ref p) H = some U) : U = "list" ∨ U = "tuple" ∨ U = "dict" := by
  have h : tyO (H p) = some U := h
  unfold tyO at h
  split at h <;> first | (cases h; decide) | cases h
abbrev s_is_whole : Stmt := top 6
theorem sc_is_whole : FnScope ["value"] ["value"] (defScope s_is_whole) := ⟨rfl, rfl, rfl, by decide +kernel, rfl, by decide +kernel, by decide +kernel⟩
def sp_is_whole : Sp := fun vs H Q _ => ∃ x T, vs = [x] ∧ tyF x H = some T ∧ Q (.bl (isWholeB x)) H
theorem ok_is_whole (D : Df K mg "is_whole" s_is_whole ["value"]) (T : Txt K mg) : Fn P w K mg base "is_whole" 1 ["value"] sp_is_whole := by
  refine D.ok sc_is_whole (fun vs H Q E h => ?_) (fun f cdv A outer s H vs Q E hr h => ?_)
  · obtain ⟨x, U, rfl, _⟩ := h
    rfl
  · obtain ⟨x, U, rfl, hU, k⟩ := h
    refine ⟨_, (pss_one (ps_ret (pe_and (pe_callB call_isiF (by rfl) T.n_isinstance (by decide +kernel) (pa_cons (pv 0) (pa_cons (pe_ty (T := "int") T.n_int) pa_nil))) (pe_one (pe_not (pe_callB call_isiF (by rfl) T.n_isinstance (by decide +kernel) (pa_cons (pv 0) (pa_cons (pe_ty (T := "bool") T.n_bool) pa_nil)))))))), ?_⟩
    cases x with
    | ref p =>
      have h1 := ty_ref hU
      have hU : tyO (H p) = some U := hU
      rcases h1 with rfl | rfl | rfl <;>
      · walk_at "go"
        rw [hU]
        walk_at "go"
        exact k
    | byt b => cases hU
    | flt b => cases hU
    | ty b => cases hU
    | non =>
      walk_at "go"
      exact k
    | bl b =>
      walk_at "go"
      exact k
    | int b =>
      walk_at "go"
      exact k
    | str b =>
      walk_at "go"
      exact k
abbrev s_is_between : Stmt := top 7
theorem sc_is_between : FnScope ["value", "least", "most"] ["value", "least", "most"] (defScope s_is_between) := ⟨rfl, rfl, rfl, by decide +kernel, rfl, by decide +kernel, by decide +kernel⟩
def sp_is_between : Sp := fun vs H Q _ => ∃ x T a b, vs = [x, .int a, .int b] ∧ tyF x H = some T ∧ Q (.bl (btwB x a b)) H
theorem ok_is_between (D : Df K mg "is_between" s_is_between ["value", "least", "most"]) (F_is_whole : Fn P w K mg base "is_whole" 1 ["value"] sp_is_whole) (T : Txt K mg) : Fn P w K mg base "is_between" 2 ["value", "least", "most"] sp_is_between := by
  refine D.ok sc_is_between (fun vs H Q E h => ?_) (fun f cdv A outer s H vs Q E hr h => ?_)
  · obtain ⟨x, U, a, b, rfl, _⟩ := h
    rfl
  · obtain ⟨x, U, a, b, rfl, hU, k⟩ := h
    refine ⟨_, (pss_one (ps_ret (pe_and (pe_fn F_is_whole (hr.mono (by decide)) rfl (pa_cons (pv 0) pa_nil)) (pe_one (pe_chain op_leF op_leF (pv 1) (pv 0) (pv 2)))))), ?_⟩
    walk_at "go"
    refine ⟨x, U, rfl, hU, ?_⟩
    cases x with
    | int i =>
      simp only [isWholeB]
      walk_at "go"
      refine ite2 (fun h => ?_) (fun h => ?_)
      · have e : btwB (.int i) a b = decide (i ≤ b) := by
          rw [btw_i, decide_eq_true h, Bool.true_and]
        rw [e] at k
        exact k
      · have e : btwB (.int i) a b = false := by
          rw [btw_i, decide_eq_false h, Bool.false_and]
        rw [e] at k
        exact k
    | ref p =>
      simp only [isWholeB]
      walk_at "go"
      exact k
    | byt b => cases hU
    | flt b => cases hU
    | ty b => cases hU
    | non =>
      simp only [isWholeB]
      walk_at "go"
      exact k
    | bl b =>
      simp only [isWholeB]
      walk_at "go"
      exact k
    | str b =>
      simp only [isWholeB]
      walk_at "go"
      exact k
theorem btw_int {i a b : Int} (h1 : a ≤ i) (h2 : i ≤ b) : btwB (.int i) a b = true := by
  rw [btw_i, decide_eq_true h1, decide_eq_true h2]
  rfl
abbrev s_check_top : Stmt := top 10
theorem sc_check_top : FnScope ["top"] ["top"] (defScope s_check_top) := ⟨rfl, rfl, rfl, by decide +kernel, rfl, by decide +kernel, by decide +kernel⟩
def sp_check_top : Sp := fun vs H Q _ => ∃ i : Int, vs = [.int i] ∧ 0 ≤ i ∧ i ≤ 9 ∧ Q .non H
theorem ok_check_top (D : Df K mg "check_top" s_check_top ["top"]) (F_is_between : Fn P w K mg base "is_between" 2 ["value", "least", "most"] sp_is_between) (T : Txt K mg) : Fn P w K mg base "check_top" 3 ["top"] sp_check_top := by
  refine D.ok sc_check_top (fun vs H Q E h => ?_) (fun f cdv A outer s H vs Q E hr h => ?_)
  · obtain ⟨x, rfl, _⟩ := h
    rfl
  · obtain ⟨i, rfl, h1, h2, k⟩ := h
    refine ⟨_, (pss_one (ps_if (pt_not (pt_val (pe_fn F_is_between (hr.mono (by decide)) rfl (pa_cons (pv 0) (pa_cons pe_int (pa_cons (pe_op op_subF (pe_gint T.g_SPEEDS) pe_int) pa_nil)))))) (pss_one ps_never) pss_nil)), ?_⟩
    walk_at "go"
    refine ⟨_, _, _, _, rfl, rfl, ?_⟩
    rw [btw_int h1 (by omega)]
    walk_at "go"
    exact k
abbrev s_check_ticks : Stmt := top 17
theorem sc_check_ticks : FnScope ["ticks"] ["ticks"] (defScope s_check_ticks) := ⟨rfl, rfl, rfl, by decide +kernel, rfl, by decide +kernel, by decide +kernel⟩
def sp_check_ticks : Sp := fun vs H Q _ => ∃ i : Int, vs = [.int i] ∧ 0 ≤ i ∧ i ≤ 400 ∧ Q .non H
theorem ok_check_ticks (D : Df K mg "check_ticks" s_check_ticks ["ticks"]) (F_is_between : Fn P w K mg base "is_between" 2 ["value", "least", "most"] sp_is_between) (T : Txt K mg) : Fn P w K mg base "check_ticks" 3 ["ticks"] sp_check_ticks := by
  refine D.ok sc_check_ticks (fun vs H Q E h => ?_) (fun f cdv A outer s H vs Q E hr h => ?_)
  · obtain ⟨x, rfl, _⟩ := h
    rfl
  · obtain ⟨i, rfl, h1, h2, k⟩ := h
    refine ⟨_, (pss_one (ps_if (pt_not (pt_val (pe_fn F_is_between (hr.mono (by decide)) rfl (pa_cons (pv 0) (pa_cons pe_int (pa_cons (pe_gint T.g_MOST_TICKS) pa_nil)))))) (pss_one ps_never) pss_nil)), ?_⟩
    walk_at "go"
    refine ⟨_, _, _, _, rfl, rfl, ?_⟩
    rw [btw_int h1 h2]
    walk_at "go"
    exact k
abbrev s_check_rates : Stmt := top 18
theorem sc_check_rates : FnScope ["time", "way"] ["time", "way"] (defScope s_check_rates) := ⟨rfl, rfl, rfl, by decide +kernel, rfl, by decide +kernel, by decide +kernel⟩
def sp_check_rates : Sp := fun vs H Q _ => ∃ i j : Int, vs = [.int i, .int j] ∧ 0 ≤ i ∧ i ≤ 60 ∧ 0 ≤ j ∧ j ≤ 6 ∧ Q .non H
theorem ok_check_rates (D : Df K mg "check_rates" s_check_rates ["time", "way"]) (F_is_between : Fn P w K mg base "is_between" 2 ["value", "least", "most"] sp_is_between) (T : Txt K mg) : Fn P w K mg base "check_rates" 3 ["time", "way"] sp_check_rates := by
  refine D.ok sc_check_rates (fun vs H Q E h => ?_) (fun f cdv A outer s H vs Q E hr h => ?_)
  · obtain ⟨x, y, rfl, _⟩ := h
    rfl
  · obtain ⟨i, j, rfl, h1, h2, h3, h4, k⟩ := h
    refine ⟨_, (pss_cons (ps_if (pt_not (pt_val (pe_fn F_is_between (hr.mono (by decide)) rfl (pa_cons (pv 0) (pa_cons pe_int (pa_cons (pe_gint T.g_GREATEST_TIME) pa_nil)))))) (pss_one ps_never) pss_nil)
      (pss_one (ps_if (pt_not (pt_val (pe_fn F_is_between (hr.mono (by decide)) rfl (pa_cons (pv 1) (pa_cons pe_int (pa_cons (pe_gint T.g_GREATEST_RATE) pa_nil)))))) (pss_one ps_never) pss_nil))), ?_⟩
    walk_at "go"
    refine ⟨_, _, _, _, rfl, rfl, ?_⟩
    rw [btw_int h1 h2]
    walk_at "go"
    refine ⟨_, _, _, _, rfl, rfl, ?_⟩
    rw [btw_int h3 h4]
    walk_at "go"
    exact k
abbrev s_is_count : Stmt := top 16
theorem sc_is_count : FnScope ["value"] ["value"] (defScope s_is_count) := ⟨rfl, rfl, rfl, by decide +kernel, rfl, by decide +kernel, by decide +kernel⟩
def sp_is_count : Sp := fun vs H Q _ => ∃ i : Int, vs = [.int i] ∧ Q (.bl (decide (0 ≤ i))) H
theorem ok_is_count (D : Df K mg "is_count" s_is_count ["value"]) (T : Txt K mg) : Fn P w K mg base "is_count" 1 ["value"] sp_is_count := by
  refine D.ok sc_is_count (fun vs H Q E h => ?_) (fun f cdv A outer s H vs Q E hr h => ?_)
  · obtain ⟨x, rfl, _⟩ := h
    rfl
  · obtain ⟨i, rfl, k⟩ := h
    refine ⟨_, (pss_one (ps_ret (pe_and (pe_callB call_isiF (by rfl) T.n_isinstance (by decide +kernel) (pa_cons (pv 0) (pa_cons (pe_ty (T := "int") T.n_int) pa_nil))) (pe_and (pe_not (pe_callB call_isiF (by rfl) T.n_isinstance (by decide +kernel) (pa_cons (pv 0) (pa_cons (pe_ty (T := "bool") T.n_bool) pa_nil)))) (pe_one (pe_cmpR op_geF (pv 0) pe_int (nomark _))))))), ?_⟩
    walk_at "go"
    exact k
end

/-! ### stretches united -/
def ustep (acc : List (Int × Int)) (r : Int × Int) : List (Int × Int) := match acc.getLast? with
  | some q => if r.1 ≤ q.2 + 1 then acc.dropLast ++ [(q.1, if r.2 > q.2 then r.2 else q.2)] else acc ++ [r]
  | none => acc ++ [r]
def uniL (rs : List (Int × Int)) : List (Int × Int) := (srt rs).foldl ustep []
theorem ustep_app {zs : List (Int × Int)} {lo hi : Int} (h : zs = [] ∨ ∃ ss r, zs = ss ++ [r] ∧ ¬ lo ≤ r.2 + 1) : ustep zs (lo, hi) = zs ++ [(lo, hi)] := by
  rcases h with rfl | ⟨ss, r, rfl, h⟩
  · rfl
  · unfold ustep
    rw [List.getLast?_concat]
    exact if_neg h
theorem ustep_join {ss : List (Int × Int)} {lo hi r1 r2 : Int} (h : lo ≤ r2 + 1) : ustep (ss ++ [(r1, r2)]) (lo, hi) = ss ++ [(r1, if hi > r2 then hi else r2)] := by
  unfold ustep
  rw [List.getLast?_concat, List.dropLast_concat]
  exact if_pos h
/-! ### the parts and the stretches of a count -/
def slowI (time way top : Int) : Int := if time / way < top then time / way else top
def partOf (time way : Int) (ticks : Nat) (top : Int) (s : Nat) : Option (Int × Int × Int × Int) := if (ticks : Int) - (s : Int) = 0 ∨ slowI time way top < top then some ((s : Int), slowI time way top, ((ticks : Int) - (s : Int)) * (slowI time way top + 1), ((ticks : Int) - (s : Int)) * top) else none
def partsL (time way : Int) (ticks : Nat) (top : Int) : List (Int × Int × Int × Int) := (List.range (ticks + 1)).filterMap (partOf time way ticks top)
def tQ (r : Int × Int × Int × Int) : List V := [.int r.1, .int r.2.1, .int r.2.2.1, .int r.2.2.2]
def strOf (time way count : Int) (r : Int × Int × Int × Int) : Option (Int × Int) := if (count - time * r.1) % way = 0 ∧ r.2.2.1 ≤ (count - time * r.1) / way ∧ (count - time * r.1) / way ≤ r.2.2.2 then some ((count - time * r.1) / way, (count - time * r.1) / way + r.1 * r.2.1) else none
def bStrL (time way : Int) (ticks : Nat) (count top : Int) : List (Int × Int) := if way = 0 then (if count - time * ticks = 0 then [(0, ticks * top)] else []) else if (count - time * ticks) % way = 0 ∧ 0 ≤ (count - time * ticks) / way ∧ (count - time * ticks) / way ≤ ticks * top then [((count - time * ticks) / way, (count - time * ticks) / way)] else []
def eStrL (time way : Int) (ticks : Nat) (count top : Int) : List (Int × Int) := if way = 0 then bStrL time way ticks count top else (partsL time way ticks top).filterMap (strOf time way count)
theorem fm_next {α : Type} (f : Nat → Option α) (n : Nat) : (List.range (n + 1)).filterMap f = (List.range n).filterMap f ++ (f n).toList := by
  rw [List.range_succ, List.filterMap_append]
  cases e : f n <;> simp [e]
theorem fm_len {α : Type} (f : Nat → Option α) (n : Nat) : ((List.range n).filterMap f).length ≤ n := Nat.le_trans (List.length_filterMap_le _ _) (by rw [List.length_range]; exact Nat.le_refl _)
theorem slow_bd {time way top : Int} (h0 : 0 ≤ time) (h1 : 0 < way) (h2 : 0 ≤ top) (h3 : top ≤ 9) : 0 ≤ slowI time way top ∧ slowI time way top ≤ 9 := by
  have := Int.ediv_nonneg h0 (Int.le_of_lt h1)
  unfold slowI
  split <;> omega
section
variable {P : Program} {w : World} {K : PySem.W.Frag} {mg : Str → Option Value} {base : Heap}
abbrev s_united : Stmt := top 19
theorem sc_united : FnScope ["stretches", "found", "low", "high"] ["stretches"] (defScope s_united) := ⟨rfl, rfl, rfl, by decide +kernel, rfl, by decide +kernel, by decide +kernel⟩
def sp_united : Sp := fun vs H Q _ => ∃ (a : Addr) (xs : List V) (rs : List (Int × Int)), vs = [.ref a] ∧ H a = some (.lst xs) ∧ TupAt H tI xs rs ∧ rs.length ≤ 1000 ∧ ∀ p ys H', Same H H' → H p = none → H' p = some (.lst ys) → TupAt H' tI ys (uniL rs) → Q (.ref p) H'
theorem ok_united (D : Df K mg "united" s_united ["stretches"]) (T : Txt K mg) : Fn P w K mg base "united" 1 ["stretches"] sp_united := by
  refine D.ok sc_united (fun vs H Q E h => ?_) (fun f cdv A outer s H vs Q E hr h => ?_)
  · obtain ⟨a, xs, rs, rfl, _⟩ := h
    rfl
  · obtain ⟨a, xs, rs, rfl, hx, t, hlen, k⟩ := h
    refine ⟨_, (pss_cons (ps_set (i := 1) sc_united.nd rfl (Or.inl rfl) (pe_lst pa_nil))
      (pss_cons (ps_for PassesOwn.never rfl (pi_list (pe_callB call_sortPF (by rfl) T.n_sorted (by decide +kernel) (pa_cons (pv 0) pa_nil))) (pg_tupF (n := 2) rfl (pgs_cons (pg_name (i := 2) sc_united.nd rfl (Or.inl rfl)) (pgs_cons (pg_name (i := 3) sc_united.nd rfl (Or.inl rfl)) pgs_nil))) (pss_one (ps_if (PW.pt (pw_and (pt_cmpR (op_neX (K := K) hr.units) (pv 1) (pe_lst pa_nil) (nomark _)) (pw_and1 (pt_cmpR op_leF (pv 2) (pe_op op_addF (pe_ix ix_F (pe_ix ix_F (pv 1) (pe_un un_neg pe_int) (fun _ _ => rfl)) pe_int (fun _ _ => rfl)) pe_int) (nomark _))))) (pss_one (ps_asg (pe_tup (pa_cons (pe_ix ix_F (pe_ix ix_F (pv 1) (pe_un un_neg pe_int) (fun _ _ => rfl)) pe_int (fun _ _ => rfl)) (pa_cons (pe_callB (call_maxF rfl) (by rfl) T.n_max (by decide +kernel) (pa_cons (pe_ix ix_F (pe_ix ix_F (pv 1) (pe_un un_neg pe_int) (fun _ _ => rfl)) pe_int (fun _ _ => rfl)) (pa_cons (pv 3) pa_nil))) pa_nil))) (pg_sub (pv 1) (pe_un un_neg pe_int) set_F))) (pss_one (ps_expr (pe_lm PySem.F.slot_list_append PySem.F.type_list_append mt_appF (pv 1) (pa_cons (pe_tup (pa_cons (pv 2) (pa_cons (pv 3) pa_nil))) pa_nil)))))))
      (pss_one (ps_ret (pv 1))))), ?_⟩
    walk_at "go"
    refine new_in fun p H1 hp S1 h1 => ?_
    walk_at "go"
    refine ⟨xs, rs, S1 _ _ hx, t.mono (same_tup S1), fun ys q H2 S2 hq h2 t2 => ?_⟩
    have hl2 := t2.len
    have hl3 := (srt_perm rs).length_eq
    walk_at "go"
    refine ⟨⟨_, SqL.of h2⟩, ?_⟩
    have npq : p ≠ q := ne_of_none h1 hq
    refine lp_list ys (fun i σ H' => ∃ fs v2 v3, σ = [some (.ref a), some (.ref p), v2, v3] ∧ Same H H' ∧ H' p = some (.lst fs) ∧ H' q = some (.lst ys) ∧ TupAt H' tI ys (srt rs) ∧ TupAt H' tI fs (((srt rs).take i).foldl ustep []) ∧ fs.length ≤ i) ⟨[], none, none, rfl, S1.trans S2, S2 _ _ h1, h2, t2, trivial, Nat.le_refl _⟩ ?_ ?_ ?_
    · rintro i σ H' hi ⟨fs, v2, v3, _, _, _, h, _⟩
      exact h
    · rintro i x σ H' hx' ⟨fs, v2, v3, rfl, S3, h3, h4, t3, t4, hfl⟩
      obtain ⟨b, r, rfl, hr1, hb⟩ := t3.get hx'
      have hi : i < ys.length := (List.getElem?_eq_some_iff.mp hx').1
      have hstep : ((srt rs).take (i + 1)).foldl ustep [] = ustep (((srt rs).take i).foldl ustep []) r := by
        rw [List.take_add_one, hr1, List.foldl_append]
        rfl
      generalize hzs : ((srt rs).take i).foldl ustep [] = zs at *
      obtain ⟨lo, hi2⟩ := r
      have hb : H' b = some (.tup [.int lo, .int hi2]) := hb
      walk_at "go"
      rw [hb]
      walk_at "go"
      refine new_in fun e H4 he S4 h5 => ?_
      walk_at "go"
      refine sd_nil (S4 _ _ h3) (t4.mono (same_tup S4)) h5 ?_
      have t4' := t4.mono (same_tup S4)
      have t3' := t3.mono (same_tup S4)
      have h3' := S4 _ _ h3
      have h4' := S4 _ _ h4
      have S4' := S3.trans S4
      -- what both ways of going on come to
      have app : zs = [] ∨ (∃ ss r, zs = ss ++ [r] ∧ ¬ lo ≤ r.2 + 1) → ∀ H5 c, Same H4 H5 → H4 c = none → H5 c = some (.tup [.int lo, .int hi2]) → ∃ fs' v2' v3', [some (V.ref a), some (.ref p), some (.int lo), some (.int hi2)] = [some (.ref a), some (.ref p), v2', v3'] ∧ Same H (upd H5 p (.lst (fs ++ [.ref c]))) ∧ upd H5 p (.lst (fs ++ [.ref c])) p = some (.lst fs') ∧ upd H5 p (.lst (fs ++ [.ref c])) q = some (.lst ys) ∧ TupAt (upd H5 p (.lst (fs ++ [.ref c]))) tI ys (srt rs) ∧ TupAt (upd H5 p (.lst (fs ++ [.ref c]))) tI fs' (((srt rs).take (i + 1)).foldl ustep []) ∧ fs'.length ≤ i + 1 := by
        intro hz H5 c S5 hc h6
        have keep : ∀ b zs, H5 b = some (.tup zs) → upd H5 p (.lst (fs ++ [.ref c])) b = some (.tup zs) := fun b zs hb => by
          rw [upd_ne (ne_of hb (S5 _ _ h3') (by intro z; cases z))]
          exact hb
        refine ⟨fs ++ [.ref c], _, _, rfl, sm_mut (S4'.trans S5) hp, upd_same, by rw [upd_ne npq.symm]; exact S5 _ _ h4', (t3'.mono (same_tup S5)).mono keep, ?_, by rw [List.length_append]; simp only [List.length_cons, List.length_nil]; omega⟩
        rw [hstep, ustep_app hz]
        exact (TupAt.snoc (r := (lo, hi2)) h6 (t4'.mono (same_tup S5))).mono keep
      by_cases hz : zs = []
      · subst hz
        walk_at "go"
        rw [h3']
        walk_at "go"
        refine new_in fun c H5 hc S5 h6 => ?_
        rw [S5 _ _ h3']
        walk_at "go"
        exact app (.inl rfl) H5 c S5 hc h6
      · obtain ⟨gs, la, ss, r, rfl, rfl, t5, hla⟩ := t4'.last hz
        have e1 : atI (gs ++ [.ref la]) (-1) = some (.ref la) := by
          rw [at_last, List.length_append, List.getElem?_append_right (by simp)]
          simp
        have e2 : (ss ++ [r]).isEmpty = false := by
          cases ss <;> rfl
        obtain ⟨r1, r2⟩ := r
        have hla : H4 la = some (.tup [.int r1, .int r2]) := hla
        rw [e2]
        walk_at "go"
        rw [h3']
        walk_at "go"
        rw [e1]
        walk_at "go"
        rw [hla]
        walk_at "go"
        refine ite2 (fun hle => ?_) (fun hle => ?_)
        · rw [h3']
          walk_at "go"
          rw [e1]
          walk_at "go"
          rw [hla]
          walk_at "go"
          rw [h3']
          walk_at "go"
          rw [e1]
          walk_at "go"
          rw [hla]
          walk_at "go"
          refine new_in fun c H5 hc S5 h6 => ?_
          have hpos : 0 < (gs ++ [V.ref la]).length := by simp
          walk_at "go"
          simp only [S5 _ _ h3', f_setO, ix_m1 hpos]
          have eset : (gs ++ [V.ref la]).set ((gs ++ [V.ref la]).length - 1) (.ref c) = gs ++ [.ref c] := by
            rw [List.length_append, List.set_append_right _ _ (by simp)]
            simp
          rw [eset]
          have keep : ∀ b zs, H5 b = some (.tup zs) → upd H5 p (.lst (gs ++ [.ref c])) b = some (.tup zs) := fun b zs hb => by
            rw [upd_ne (ne_of hb (S5 _ _ h3') (by intro z; cases z))]
            exact hb
          refine ⟨gs ++ [.ref c], _, _, rfl, sm_mut (S4'.trans S5) hp, upd_same, by rw [upd_ne npq.symm]; exact S5 _ _ h4', (t3'.mono (same_tup S5)).mono keep, ?_, by rw [List.length_append] at hfl ⊢; simp only [List.length_cons, List.length_nil] at hfl ⊢; omega⟩
          rw [hstep, ustep_join hle]
          exact (TupAt.snoc (r := (r1, if hi2 > r2 then hi2 else r2)) h6 (t5.mono (same_tup S5))).mono keep
        · rw [h3']
          walk_at "go"
          refine new_in fun c H5 hc S5 h6 => ?_
          rw [S5 _ _ h3']
          walk_at "go"
          refine ⟨?_, app (.inr ⟨ss, _, rfl, hle⟩) H5 c S5 hc h6⟩
          rw [List.length_append] at hfl
          simp only [List.length_cons, List.length_nil] at hfl
          omega
    · rintro σ H' ⟨fs, v2, v3, rfl, S3, h3, h4, t3, t4, hfl⟩
      walk_at "go"
      rw [List.take_of_length_le (by omega)] at t4
      exact k p fs H' S3 hp h3 t4

abbrev s_either_parts : Stmt := top 20
theorem sc_either_parts : FnScope ["time", "way", "ticks", "top", "slowest", "found", "slow", "fast"] ["time", "way", "ticks", "top"] (defScope s_either_parts) := ⟨rfl, rfl, rfl, by decide +kernel, rfl, by decide +kernel, by decide +kernel⟩
def sp_either_parts : Sp := fun vs H Q _ => ∃ (time way top : Int) (ticks : Nat), vs = [.int time, .int way, .int (ticks : Int), .int top] ∧ 0 ≤ time ∧ time ≤ 60 ∧ 0 < way ∧ way ≤ 6 ∧ ticks ≤ 400 ∧ 0 ≤ top ∧ top ≤ 9 ∧ ∀ p xs H', Same H H' → H p = none → H' p = some (.lst xs) → TupAt H' tQ xs (partsL time way ticks top) → Q (.ref p) H'
theorem ok_either_parts (D : Df K mg "either_parts" s_either_parts ["time", "way", "ticks", "top"]) (T : Txt K mg) : Fn P w K mg base "either_parts" 1 ["time", "way", "ticks", "top"] sp_either_parts := by
  refine D.ok sc_either_parts (fun vs H Q E h => ?_) (fun f cdv A outer s H vs Q E hr h => ?_)
  · obtain ⟨a, b, c, d, rfl, _⟩ := h
    rfl
  · obtain ⟨time, way, top, ticks, rfl, h1, h2, h3, h4, h5, h6, h7, k⟩ := h
    obtain ⟨b1, b2⟩ := slow_bd h1 h3 h6 h7
    refine ⟨_, (pss_cons (ps_set (i := 4) sc_either_parts.nd rfl (Or.inl rfl) (pe_callB (call_minF rfl) (by rfl) T.n_min (by decide +kernel) (pa_cons (pv 3) (pa_cons (pe_op op_fdivF (pv 0) (pv 1)) pa_nil))))
      (pss_cons (ps_set (i := 5) sc_either_parts.nd rfl (Or.inl rfl) (pe_lst pa_nil))
      (pss_cons (ps_for PassesOwn.never rfl (pi_range1 (by rfl) T.n_range (pa_cons (pe_op op_addF (pv 2) pe_int) pa_nil)) (pg_name (i := 6) sc_either_parts.nd rfl (Or.inl rfl)) (pss_cons (ps_set (i := 7) sc_either_parts.nd rfl (Or.inl rfl) (pe_op op_subF (pv 2) (pv 6)))
      (pss_one (ps_if (PW.pt (pw_or (pt_cmpR (op_eqX (K := K) hr.units) (pv 7) pe_int (nomark _)) (pw_or1 (pt_cmpR op_ltF (pv 4) (pv 3) (nomark _))))) (pss_one (ps_expr (pe_lm PySem.F.slot_list_append PySem.F.type_list_append mt_appF (pv 5) (pa_cons (pe_tup (pa_cons (pv 6) (pa_cons (pv 4) (pa_cons (pe_op op_mulF (pv 7) (pe_op op_addF (pv 4) pe_int)) (pa_cons (pe_op op_mulF (pv 7) (pv 3)) pa_nil))))) pa_nil)))) pss_nil))))
      (pss_one (ps_ret (pv 5)))))), ?_⟩
    walk_at "go"
    rw [show (if time / way < top then time / way else top) = slowI time way top from rfl]
    have hpo : ∀ s, partOf time way ticks top s = if (ticks : Int) - (s : Int) = 0 ∨ slowI time way top < top then some ((s : Int), slowI time way top, ((ticks : Int) - (s : Int)) * (slowI time way top + 1), ((ticks : Int) - (s : Int)) * top) else none := fun _ => rfl
    generalize slowI time way top = slow at *
    refine new_in fun p H1 hp S1 g1 => ?_
    walk_at "go"
    rw [show ((ticks : Int) + 1).toNat = ticks + 1 by omega]
    refine lp_range (fun i σ H' => ∃ xs v7 v8, σ = [some (.int time), some (.int way), some (.int (ticks : Int)), some (.int top), some (.int slow), some (.ref p), v7, v8] ∧ Same H H' ∧ H' p = some (.lst xs) ∧ TupAt H' tQ xs ((List.range i).filterMap (partOf time way ticks top))) ⟨[], none, none, rfl, S1, g1, trivial⟩ ?_ ?_
    · rintro i σ H' hi ⟨xs, v7, v8, rfl, S3, g3, t3⟩
      have hxl := t3.len
      have hfl := fm_len (partOf time way ticks top) i
      have e0 : (0 : Int) + (i : Int) = (i : Int) := by omega
      have cm : ∀ x y : Int, 0 ≤ x → x ≤ 1000 → CMul x y := fun x y q1 q2 => .inl ⟨by omega, by omega⟩
      have app : ((ticks : Int) - (i : Int) = 0 ∨ slow < top) → ∀ H5 c, Same H' H5 → H5 c = some (.tup (tQ ((i : Int), slow, ((ticks : Int) - (i : Int)) * (slow + 1), ((ticks : Int) - (i : Int)) * top))) → ∃ xs' v7' v8', [some (V.int time), some (.int way), some (.int (ticks : Int)), some (.int top), some (.int slow), some (.ref p), some (.int (i : Int)), some (.int ((ticks : Int) - (i : Int)))] = [some (.int time), some (.int way), some (.int (ticks : Int)), some (.int top), some (.int slow), some (.ref p), v7', v8'] ∧ Same H (upd H5 p (.lst (xs ++ [.ref c]))) ∧ upd H5 p (.lst (xs ++ [.ref c])) p = some (.lst xs') ∧ TupAt (upd H5 p (.lst (xs ++ [.ref c]))) tQ xs' ((List.range (i + 1)).filterMap (partOf time way ticks top)) := by
        intro hc H5 c S5 g5
        refine ⟨xs ++ [.ref c], _, _, rfl, sm_mut (S3.trans S5) hp, upd_same, ?_⟩
        rw [fm_next, hpo i, if_pos hc]
        exact (TupAt.snoc g5 (t3.mono (same_tup S5))).mono fun b zs hb => by
          rw [upd_ne (ne_of hb (S5 _ _ g3) (by intro z; cases z))]
          exact hb
      rw [e0]
      walk_at "go"
      refine ite2 (fun hc => ?_) (fun hc => ?_)
      · rw [g3]
        walk_at "go"
        refine new_in fun c H5 hcn S5 g5 => ?_
        rw [S5 _ _ g3]
        walk_at "go"
        exact app (.inl hc) H5 c S5 g5
      · refine ite2 (fun hd => ?_) (fun hd => ?_)
        · rw [g3]
          walk_at "go"
          refine new_in fun c H5 hcn S5 g5 => ?_
          rw [S5 _ _ g3]
          walk_at "go"
          exact app (.inr hd) H5 c S5 g5
        · refine ⟨xs, some (.int (i : Int)), some (.int ((ticks : Int) - (i : Int))), rfl, S3, g3, ?_⟩
          rw [fm_next, hpo i, if_neg (fun z => z.elim hc hd)]
          simp only [Option.toList_none, List.append_nil]
          exact t3
    · rintro σ H' ⟨xs, v7, v8, rfl, S3, g3, t3⟩
      walk_at "go"
      exact k p xs H' S3 hp g3 t3
def spB (f : Int → Int → Nat → Int → Int → List (Int × Int)) : Sp := fun vs H Q _ => ∃ (time way count top : Int) (ticks : Nat), vs = [.int time, .int way, .int (ticks : Int), .int count, .int top] ∧ 0 ≤ time ∧ time ≤ 60 ∧ 0 ≤ way ∧ way ≤ 6 ∧ ticks ≤ 400 ∧ 0 ≤ count ∧ 0 ≤ top ∧ top ≤ 9 ∧ ∀ p xs H', Same H H' → H p = none → H' p = some (.lst xs) → TupAt H' tI xs (f time way ticks count top) → Q (.ref p) H'
abbrev s_both_stretches : Stmt := top 22
theorem sc_both_stretches : FnScope ["time", "way", "ticks", "count", "top", "rest"] ["time", "way", "ticks", "count", "top"] (defScope s_both_stretches) := ⟨rfl, rfl, rfl, by decide +kernel, rfl, by decide +kernel, by decide +kernel⟩
theorem ok_both_stretches (D : Df K mg "both_stretches" s_both_stretches ["time", "way", "ticks", "count", "top"]) (T : Txt K mg) : Fn P w K mg base "both_stretches" 1 ["time", "way", "ticks", "count", "top"] (spB bStrL) := by
  refine D.ok sc_both_stretches (fun vs H Q E h => ?_) (fun f cdv A outer s H vs Q E hr h => ?_)
  · obtain ⟨a, b, c, d, e, rfl, _⟩ := h
    rfl
  · obtain ⟨time, way, count, top, ticks, rfl, h1, h2, h3, h4, h5, h6, h7, h8, k⟩ := h
    have cm : ∀ x y : Int, 0 ≤ x → x ≤ 1000 → CMul x y := fun x y q1 q2 => .inl ⟨by omega, by omega⟩
    refine ⟨_, (pss_cons (ps_set (i := 5) sc_both_stretches.nd rfl (Or.inl rfl) (pe_op op_subF (pv 3) (pe_op op_mulF (pv 0) (pv 2))))
      (pss_cons (ps_if (pt_cmpR (op_eqX (K := K) hr.units) (pv 1) pe_int (nomark _)) (pss_one (ps_ret (pe_ifExp (pt_cmpR (op_eqX (K := K) hr.units) (pv 5) pe_int (nomark _)) (pe_lst (pa_cons (pe_tup (pa_cons pe_int (pa_cons (pe_op op_mulF (pv 2) (pv 4)) pa_nil))) pa_nil)) (pe_lst pa_nil)))) pss_nil)
      (pss_one (ps_ret (pe_ifExp (PW.pt (pw_and (pt_cmpR (op_eqX (K := K) hr.units) (pe_op op_modF (pv 5) (pv 1)) pe_int (nomark _)) (pw_and1 (pt_chain op_leF op_leF pe_int (pe_op op_fdivF (pv 5) (pv 1)) (pe_op op_mulF (pv 2) (pv 4)))))) (pe_lst (pa_cons (pe_tup (pa_cons (pe_op op_fdivF (pv 5) (pv 1)) (pa_cons (pe_op op_fdivF (pv 5) (pv 1)) pa_nil))) pa_nil)) (pe_lst pa_nil)))))), ?_⟩
    walk_at "go"
    have kn : bStrL time way ticks count top = [] → ∀ p H', Same H H' → H p = none → H' p = some (.lst []) → Q (.ref p) H' := fun e p H' S hp g => k p [] H' S hp g (by rw [e]; trivial)
    have ks : ∀ r, bStrL time way ticks count top = [r] → ∀ p c H', Same H H' → H p = none → H' p = some (.lst [.ref c]) → H' c = some (.tup (tI r)) → Q (.ref p) H' := fun r e p c H' S hp g gc => k p [.ref c] H' S hp g (by rw [e]; exact ⟨⟨c, rfl, gc⟩, trivial⟩)
    refine ite2 (fun hw => ?_) (fun hw => ?_)
    · refine ite2 (fun hc => ?_) (fun hc => ?_)
      · walk_at "go"
        refine new_in fun c H1 hcn S1 g1 => ?_
        walk_at "go"
        refine new_in fun p H2 hp S2 g2 => ?_
        exact ks (0, ticks * top) (by unfold bStrL; rw [if_pos hw, if_pos hc]) p c H2 (S1.trans S2) (S1.free hp) g2 (S2 _ _ g1)
      · walk_at "go"
        refine new_in fun p H2 hp S2 g2 => ?_
        exact kn (by unfold bStrL; rw [if_pos hw, if_neg hc]) p H2 S2 hp g2
    · have hw0 : 0 < way := by omega
      have hb : bStrL time way ticks count top = if (count - time * ticks) % way = 0 ∧ 0 ≤ (count - time * ticks) / way ∧ (count - time * ticks) / way ≤ ticks * top then [((count - time * ticks) / way, (count - time * ticks) / way)] else [] := by
        unfold bStrL
        rw [if_neg hw]
      generalize hq : (count - time * ticks) / way = q at *
      generalize hm : (count - time * ticks) % way = m at *
      walk_at "go"
      have nil : ¬ (m = 0 ∧ 0 ≤ q ∧ q ≤ ticks * top) → New H (.lst []) Q .mk := fun h => new_in fun p H2 hp S2 g2 => kn (by rw [hb, if_neg h]) p H2 S2 hp g2
      refine ite2 (fun c1 => ?_) (fun c1 => ?_)
      · walk_at "go"
        refine ite2 (fun c2 => ?_) (fun c2 => ?_)
        · walk_at "go"
          refine ite2 (fun c3 => ?_) (fun c3 => ?_)
          · walk_at "go"
            refine new_in fun c H1 hcn S1 g1 => ?_
            walk_at "go"
            refine new_in fun p H2 hp S2 g2 => ?_
            exact ks (q, q) (by rw [hb, if_pos ⟨c1, c2, c3⟩]) p c H2 (S1.trans S2) (S1.free hp) g2 (S2 _ _ g1)
          · walk_at "go"
            exact nil fun z => c3 z.2.2
        · walk_at "go"
          exact nil fun z => c2 z.2.1
      · walk_at "go"
        exact nil fun z => c1 z.1
abbrev s_either_stretches : Stmt := top 21
theorem sc_either_stretches : FnScope ["time", "way", "ticks", "count", "top", "found", "slow", "slowest", "least", "most", "rest"] ["time", "way", "ticks", "count", "top"] (defScope s_either_stretches) := ⟨rfl, rfl, rfl, by decide +kernel, rfl, by decide +kernel, by decide +kernel⟩
theorem ok_either_stretches (D : Df K mg "either_stretches" s_either_stretches ["time", "way", "ticks", "count", "top"]) (F_both_stretches : Fn P w K mg base "both_stretches" 1 ["time", "way", "ticks", "count", "top"] (spB bStrL)) (F_either_parts : Fn P w K mg base "either_parts" 1 ["time", "way", "ticks", "top"] sp_either_parts) (T : Txt K mg) : Fn P w K mg base "either_stretches" 2 ["time", "way", "ticks", "count", "top"] (spB eStrL) := by
  refine D.ok sc_either_stretches (fun vs H Q E h => ?_) (fun f cdv A outer s H vs Q E hr h => ?_)
  · obtain ⟨a, b, c, d, e, rfl, _⟩ := h
    rfl
  · obtain ⟨time, way, count, top, ticks, rfl, h1, h2, h3, h4, h5, h6, h7, h8, k⟩ := h
    refine ⟨_, (pss_cons (ps_if (pt_cmpR (op_eqX (K := K) hr.units) (pv 1) pe_int (nomark _)) (pss_one (ps_ret (pe_fn F_both_stretches (hr.mono (by decide)) rfl (pa_cons (pv 0) (pa_cons (pv 1) (pa_cons (pv 2) (pa_cons (pv 3) (pa_cons (pv 4) pa_nil)))))))) pss_nil)
      (pss_cons (ps_set (i := 5) sc_either_stretches.nd rfl (Or.inl rfl) (pe_lst pa_nil))
      (pss_cons (ps_for PassesOwn.never rfl (pi_list (pe_fn F_either_parts (hr.mono (by decide)) rfl (pa_cons (pv 0) (pa_cons (pv 1) (pa_cons (pv 2) (pa_cons (pv 4) pa_nil)))))) (pg_tupF (n := 4) rfl (pgs_cons (pg_name (i := 6) sc_either_stretches.nd rfl (Or.inl rfl)) (pgs_cons (pg_name (i := 7) sc_either_stretches.nd rfl (Or.inl rfl)) (pgs_cons (pg_name (i := 8) sc_either_stretches.nd rfl (Or.inl rfl)) (pgs_cons (pg_name (i := 9) sc_either_stretches.nd rfl (Or.inl rfl)) pgs_nil))))) (pss_cons (ps_set (i := 10) sc_either_stretches.nd rfl (Or.inl rfl) (pe_op op_subF (pv 3) (pe_op op_mulF (pv 0) (pv 6))))
      (pss_one (ps_if (PW.pt (pw_and (pt_cmpR (op_eqX (K := K) hr.units) (pe_op op_modF (pv 10) (pv 1)) pe_int (nomark _)) (pw_and1 (pt_chain op_leF op_leF (pv 8) (pe_op op_fdivF (pv 10) (pv 1)) (pv 9))))) (pss_one (ps_expr (pe_lm PySem.F.slot_list_append PySem.F.type_list_append mt_appF (pv 5) (pa_cons (pe_tup (pa_cons (pe_op op_fdivF (pv 10) (pv 1)) (pa_cons (pe_op op_addF (pe_op op_fdivF (pv 10) (pv 1)) (pe_op op_mulF (pv 6) (pv 7))) pa_nil))) pa_nil)))) pss_nil))))
      (pss_one (ps_ret (pv 5)))))), ?_⟩
    walk_at "go"
    refine ite2 (fun hw => ?_) (fun hw => ?_)
    · refine ⟨time, way, count, top, ticks, rfl, h1, h2, h3, h4, h5, h6, h7, h8, fun p xs H1 S1 hp g1 t1 => ?_⟩
      refine k p xs H1 S1 hp g1 ?_
      unfold eStrL
      rw [if_pos hw]
      exact t1
    · have hw0 : 0 < way := by omega
      walk_at "go"
      refine new_in fun p H1 hp S1 g1 => ?_
      walk_at "go"
      refine ⟨time, way, top, ticks, rfl, h1, h2, hw0, h4, h5, h7, h8, fun q ys H2 S2 hq g2 t2 => ?_⟩
      have npq : p ≠ q := ne_of_none g1 hq
      have hyl := t2.len
      have hpl : (partsL time way ticks top).length ≤ ticks + 1 := fm_len _ _
      have g1' := S2 _ _ g1
      walk_at "go"
      refine ⟨⟨_, SqL.of g2⟩, ?_⟩
      refine lp_list ys (fun i σ H' => ∃ xs v6 v7 v8 v9 v10, σ = [some (.int time), some (.int way), some (.int (ticks : Int)), some (.int count), some (.int top), some (.ref p), v6, v7, v8, v9, v10] ∧ Same H H' ∧ H' p = some (.lst xs) ∧ H' q = some (.lst ys) ∧ TupAt H' tQ ys (partsL time way ticks top) ∧ TupAt H' tI xs (((partsL time way ticks top).take i).filterMap (strOf time way count))) ⟨[], none, none, none, none, none, rfl, S1.trans S2, g1', g2, t2, trivial⟩ ?_ ?_ ?_
      · rintro i σ H' hi ⟨xs, _, _, _, _, _, _, _, _, h, _⟩
        exact h
      · rintro i x σ H' hx ⟨xs, v6, v7, v8, v9, v10, rfl, S3, g3, g4, t3, t4⟩
        obtain ⟨b, r, rfl, hr1, hb⟩ := t3.get hx
        have hi : i < ys.length := (List.getElem?_eq_some_iff.mp hx).1
        have hxl := t4.len
        have hfl : (((partsL time way ticks top).take i).filterMap (strOf time way count)).length ≤ i := Nat.le_trans (List.length_filterMap_le _ _) (by rw [List.length_take]; omega)
        have hnext := take_fm (strOf time way count) hr1
        have hrp : ∃ s : Nat, s < ticks + 1 ∧ partOf time way ticks top s = some r := by
          obtain ⟨s, hs1, hs2⟩ := List.mem_filterMap.mp (List.mem_of_getElem? hr1)
          exact ⟨s, List.mem_range.mp hs1, hs2⟩
        obtain ⟨s0, hs0, hs1⟩ := hrp
        obtain ⟨sl, sw, le, mo⟩ := r
        have hsl : sl = (s0 : Int) ∧ 0 ≤ sw ∧ sw ≤ 9 := by
          obtain ⟨b1, b2⟩ := slow_bd h1 hw0 h7 h8
          unfold partOf at hs1
          split at hs1
          · have e := Option.some.inj hs1
            injection e with e1 e2
            injection e2 with e3 e4
            exact ⟨e1.symm, by omega, by omega⟩
          · cases hs1
        obtain ⟨rfl, hsw0, hsw1⟩ := hsl
        have hb : H' b = some (.tup [.int (s0 : Int), .int sw, .int le, .int mo]) := hb
        have hso : strOf time way count ((s0 : Int), sw, le, mo) = if (count - time * s0) % way = 0 ∧ le ≤ (count - time * s0) / way ∧ (count - time * s0) / way ≤ mo then some ((count - time * s0) / way, (count - time * s0) / way + s0 * sw) else none := rfl
        walk_at "go"
        rw [hb]
        walk_at "go"
        generalize (count - time * s0) / way = qq at *
        generalize (count - time * s0) % way = mm at *
        have skip : ¬ (mm = 0 ∧ le ≤ qq ∧ qq ≤ mo) → ∃ xs' v6 v7 v8 v9 v10, [some (V.int time), some (.int way), some (.int (ticks : Int)), some (.int count), some (.int top), some (.ref p), some (.int (s0 : Int)), some (.int sw), some (.int le), some (.int mo), some (.int (count - time * s0))] = [some (.int time), some (.int way), some (.int (ticks : Int)), some (.int count), some (.int top), some (.ref p), v6, v7, v8, v9, v10] ∧ Same H H' ∧ H' p = some (.lst xs') ∧ H' q = some (.lst ys) ∧ TupAt H' tQ ys (partsL time way ticks top) ∧ TupAt H' tI xs' (((partsL time way ticks top).take (i + 1)).filterMap (strOf time way count)) := fun hc => by
          refine ⟨xs, _, _, _, _, _, rfl, S3, g3, g4, t3, ?_⟩
          rw [hnext, hso, if_neg hc]
          simp only [Option.toList_none, List.append_nil]
          exact t4
        refine ite2 (fun c1 => ?_) (fun c1 => ?_)
        · walk_at "go"
          refine ite2 (fun c2 => ?_) (fun c2 => ?_)
          · walk_at "go"
            refine ite2 (fun c3 => ?_) (fun c3 => ?_)
            · rw [g3]
              walk_at "go"
              refine new_in fun c H5 hcn S5 g5 => ?_
              rw [S5 _ _ g3]
              walk_at "go"
              have keep : ∀ b zs, H5 b = some (.tup zs) → upd H5 p (.lst (xs ++ [.ref c])) b = some (.tup zs) := fun b zs hb => by
                rw [upd_ne (ne_of hb (S5 _ _ g3) (by intro z; cases z))]
                exact hb
              refine ⟨xs ++ [.ref c], _, _, _, _, _, rfl, sm_mut (S3.trans S5) hp, upd_same, by rw [upd_ne npq.symm]; exact S5 _ _ g4, (t3.mono (same_tup S5)).mono keep, ?_⟩
              rw [hnext, hso, if_pos ⟨c1, c2, c3⟩]
              exact (TupAt.snoc (r := (qq, qq + s0 * sw)) g5 (t4.mono (same_tup S5))).mono keep
            · exact skip fun z => c3 z.2.2
          · exact skip fun z => c2 z.2.1
        · exact skip fun z => c1 z.1
      · rintro σ H' ⟨xs, v6, v7, v8, v9, v10, rfl, S3, g3, g4, t3, t4⟩
        walk_at "go"
        rw [List.take_of_length_le (by omega)] at t4
        refine k p xs H' S3 hp g3 ?_
        unfold eStrL
        rw [if_neg hw]
        exact t4
theorem e_len (time way : Int) (ticks : Nat) (count top : Int) : (eStrL time way ticks count top).length ≤ ticks + 1 := by
  unfold eStrL
  split
  · unfold bStrL
    split <;> split <;> simp
  · exact Nat.le_trans (List.length_filterMap_le _ _) (fm_len _ _)
theorem b_len (time way : Int) (ticks : Nat) (count top : Int) : (bStrL time way ticks count top).length ≤ ticks + 1 := by
  unfold bStrL
  split <;> split <;> simp
abbrev s_either_ways : Stmt := top 23
theorem sc_either_ways : FnScope ["time", "way", "ticks", "count", "top"] ["time", "way", "ticks", "count", "top"] (defScope s_either_ways) := ⟨rfl, rfl, rfl, by decide +kernel, rfl, by decide +kernel, by decide +kernel⟩
def spU (f : Int → Int → Nat → Int → Int → List (Int × Int)) : Sp := spB fun a b c d e => uniL (f a b c d e)
theorem ok_either_ways (D : DfD K mg "either_ways" s_either_ways ["time", "way", "ticks", "count", "top"] [.int 9]) (F_check_rates : Fn P w K mg base "check_rates" 3 ["time", "way"] sp_check_rates) (F_check_ticks : Fn P w K mg base "check_ticks" 3 ["ticks"] sp_check_ticks) (F_is_count : Fn P w K mg base "is_count" 1 ["value"] sp_is_count) (F_check_top : Fn P w K mg base "check_top" 3 ["top"] sp_check_top)
    (F_united : Fn P w K mg base "united" 1 ["stretches"] sp_united) (F_either_stretches : Fn P w K mg base "either_stretches" 2 ["time", "way", "ticks", "count", "top"] (spB eStrL)) (T : Txt K mg) : FnD P w K mg base "either_ways" 4 ["time", "way", "ticks", "count", "top"] [.int 9] (spU eStrL) := by
  refine D.ok sc_either_ways (fun vs H Q E h => ?_) (fun f cdv A outer s H vs Q E hr h => ?_)
  · obtain ⟨a, b, c, d, e, rfl, _⟩ := h
    rfl
  · obtain ⟨time, way, count, top, ticks, rfl, h1, h2, h3, h4, h5, h6, h7, h8, k⟩ := h
    refine ⟨_, (pss_cons (ps_expr (pe_fn F_check_rates (hr.mono (by decide)) rfl (pa_cons (pv 0) (pa_cons (pv 1) pa_nil))))
      (pss_cons (ps_expr (pe_fn F_check_ticks (hr.mono (by decide)) rfl (pa_cons (pv 2) pa_nil)))
      (pss_cons (ps_if (pt_not (pt_val (pe_fn F_is_count (hr.mono (by decide)) rfl (pa_cons (pv 3) pa_nil)))) (pss_one ps_never) pss_nil)
      (pss_cons (ps_expr (pe_fn F_check_top (hr.mono (by decide)) rfl (pa_cons (pv 4) pa_nil)))
      (pss_one (ps_ret (pe_fn F_united (hr.mono (by decide)) rfl (pa_cons (pe_fn F_either_stretches (hr.mono (by decide)) rfl (pa_cons (pv 0) (pa_cons (pv 1) (pa_cons (pv 2) (pa_cons (pv 3) (pa_cons (pv 4) pa_nil)))))) pa_nil)))))))), ?_⟩
    walk_at "go"
    refine ⟨time, way, rfl, h1, h2, h3, h4, ?_⟩
    walk_at "go"
    refine ⟨ticks, rfl, by omega, by omega, ?_⟩
    walk_at "go"
    refine ⟨count, rfl, ?_⟩
    rw [decide_eq_true h6]
    walk_at "go"
    refine ⟨top, rfl, h7, h8, ?_⟩
    walk_at "go"
    refine ⟨time, way, count, top, ticks, rfl, h1, h2, h3, h4, h5, h6, h7, h8, fun p xs H1 S1 hp g1 t1 => ?_⟩
    have hlen := e_len time way ticks count top
    walk_at "go"
    refine ⟨p, xs, _, rfl, g1, t1, by omega, fun q ys H2 S2 hq g2 t2 => ?_⟩
    exact k q ys H2 (S1.trans S2) (S1.free hq) g2 t2
abbrev s_both_ways : Stmt := top 24
theorem sc_both_ways : FnScope ["time", "way", "ticks", "count", "top"] ["time", "way", "ticks", "count", "top"] (defScope s_both_ways) := ⟨rfl, rfl, rfl, by decide +kernel, rfl, by decide +kernel, by decide +kernel⟩
theorem ok_both_ways (D : DfD K mg "both_ways" s_both_ways ["time", "way", "ticks", "count", "top"] [.int 9]) (F_check_rates : Fn P w K mg base "check_rates" 3 ["time", "way"] sp_check_rates) (F_check_ticks : Fn P w K mg base "check_ticks" 3 ["ticks"] sp_check_ticks) (F_is_count : Fn P w K mg base "is_count" 1 ["value"] sp_is_count) (F_check_top : Fn P w K mg base "check_top" 3 ["top"] sp_check_top)
    (F_united : Fn P w K mg base "united" 1 ["stretches"] sp_united) (F_both_stretches : Fn P w K mg base "both_stretches" 1 ["time", "way", "ticks", "count", "top"] (spB bStrL)) (T : Txt K mg) : FnD P w K mg base "both_ways" 4 ["time", "way", "ticks", "count", "top"] [.int 9] (spU bStrL) := by
  refine D.ok sc_both_ways (fun vs H Q E h => ?_) (fun f cdv A outer s H vs Q E hr h => ?_)
  · obtain ⟨a, b, c, d, e, rfl, _⟩ := h
    rfl
  · obtain ⟨time, way, count, top, ticks, rfl, h1, h2, h3, h4, h5, h6, h7, h8, k⟩ := h
    refine ⟨_, (pss_cons (ps_expr (pe_fn F_check_rates (hr.mono (by decide)) rfl (pa_cons (pv 0) (pa_cons (pv 1) pa_nil))))
      (pss_cons (ps_expr (pe_fn F_check_ticks (hr.mono (by decide)) rfl (pa_cons (pv 2) pa_nil)))
      (pss_cons (ps_if (pt_not (pt_val (pe_fn F_is_count (hr.mono (by decide)) rfl (pa_cons (pv 3) pa_nil)))) (pss_one ps_never) pss_nil)
      (pss_cons (ps_expr (pe_fn F_check_top (hr.mono (by decide)) rfl (pa_cons (pv 4) pa_nil)))
      (pss_one (ps_ret (pe_fn F_united (hr.mono (by decide)) rfl (pa_cons (pe_fn F_both_stretches (hr.mono (by decide)) rfl (pa_cons (pv 0) (pa_cons (pv 1) (pa_cons (pv 2) (pa_cons (pv 3) (pa_cons (pv 4) pa_nil)))))) pa_nil)))))))), ?_⟩
    walk_at "go"
    refine ⟨time, way, rfl, h1, h2, h3, h4, ?_⟩
    walk_at "go"
    refine ⟨ticks, rfl, by omega, by omega, ?_⟩
    walk_at "go"
    refine ⟨count, rfl, ?_⟩
    rw [decide_eq_true h6]
    walk_at "go"
    refine ⟨top, rfl, h7, h8, ?_⟩
    walk_at "go"
    refine ⟨time, way, count, top, ticks, rfl, h1, h2, h3, h4, h5, h6, h7, h8, fun p xs H1 S1 hp g1 t1 => ?_⟩
    have hlen := b_len time way ticks count top
    walk_at "go"
    refine ⟨p, xs, _, rfl, g1, t1, by omega, fun q ys H2 S2 hq g2 t2 => ?_⟩
    exact k q ys H2 (S1.trans S2) (S1.free hq) g2 t2
end

/-! ### plain: stretches united cover what they covered -/
def Cov (w : Int) (l : List (Int × Int)) : Prop := ∃ r ∈ l, r.1 ≤ w ∧ w ≤ r.2
theorem ustep_cases (acc : List (Int × Int)) (r : Int × Int) : (∃ ss q, acc = ss ++ [q] ∧ r.1 ≤ q.2 + 1 ∧ ustep acc r = ss ++ [(q.1, if r.2 > q.2 then r.2 else q.2)]) ∨ ustep acc r = acc ++ [r] := by
  obtain ⟨lo, hi⟩ := r
  rcases List.eq_nil_or_concat acc with rfl | ⟨ss, q, rfl⟩
  · exact .inr (ustep_app (.inl rfl))
  · rw [List.concat_eq_append]
    by_cases h : lo ≤ q.2 + 1
    · exact .inl ⟨ss, q, rfl, h, ustep_join (r1 := q.1) (r2 := q.2) h⟩
    · exact .inr (ustep_app (.inr ⟨ss, q, rfl, h⟩))
theorem ustep_cov {w : Int} {acc : List (Int × Int)} {r : Int × Int} (hf : ∀ q ∈ acc, q.1 ≤ r.1) (h : Cov w acc ∨ (r.1 ≤ w ∧ w ≤ r.2)) : Cov w (ustep acc r) := by
  rcases ustep_cases acc r with ⟨ss, q, rfl, h1, h2⟩ | h2
  · rw [h2]
    have hq := hf q (List.mem_append_right _ (List.mem_singleton.mpr rfl))
    rcases h with ⟨x, hx, h3⟩ | h3
    · rcases List.mem_append.mp hx with hx | hx
      · exact ⟨x, List.mem_append_left _ hx, h3⟩
      · rw [List.mem_singleton.mp hx] at h3
        refine ⟨_, List.mem_append_right _ (List.mem_singleton.mpr rfl), h3.1, ?_⟩
        show w ≤ if r.2 > q.2 then r.2 else q.2
        split <;> omega
    · refine ⟨_, List.mem_append_right _ (List.mem_singleton.mpr rfl), by show q.1 ≤ w; omega, ?_⟩
      show w ≤ if r.2 > q.2 then r.2 else q.2
      split <;> omega
  · rw [h2]
    rcases h with ⟨x, hx, h3⟩ | h3
    · exact ⟨x, List.mem_append_left _ hx, h3⟩
    · exact ⟨r, List.mem_append_right _ (List.mem_singleton.mpr rfl), h3⟩
theorem ustep_first {acc : List (Int × Int)} {r : Int × Int} {b : Int} (hf : ∀ q ∈ acc, q.1 ≤ b) (hr : r.1 ≤ b) : ∀ q ∈ ustep acc r, q.1 ≤ b := by
  intro q hq
  rcases ustep_cases acc r with ⟨ss, x, rfl, h1, h2⟩ | h2
  · rw [h2] at hq
    rcases List.mem_append.mp hq with hq | hq
    · exact hf q (List.mem_append_left _ hq)
    · rw [List.mem_singleton.mp hq]
      exact hf x (List.mem_append_right _ (List.mem_singleton.mpr rfl))
  · rw [h2] at hq
    rcases List.mem_append.mp hq with hq | hq
    · exact hf q hq
    · rw [List.mem_singleton.mp hq]
      exact hr
theorem fold_cov {w : Int} : ∀ (l acc : List (Int × Int)), l.Pairwise (fun a b => leP a b = true) → (∀ q ∈ acc, ∀ r ∈ l, q.1 ≤ r.1) → (Cov w acc ∨ Cov w l) → Cov w (l.foldl ustep acc)
  | [], acc, _, _, h => by
    rcases h with h | ⟨r, hr, _⟩
    · exact h
    · cases hr
  | r :: l, acc, hs, hf, h => by
    have hs1 := List.pairwise_cons.mp hs
    have hle : ∀ x ∈ l, r.1 ≤ x.1 := fun x hx => by
      have := leP_iff.mp (hs1.1 x hx)
      omega
    rw [List.foldl_cons]
    refine fold_cov l _ hs1.2 (fun q hq x hx => ?_) ?_
    · exact ustep_first (b := x.1) (fun q hq => hf q hq x (List.mem_cons_of_mem _ hx)) (hle x hx) q hq
    · have hf0 : ∀ q ∈ acc, q.1 ≤ r.1 := fun q hq => hf q hq r (List.mem_cons_self ..)
      rcases h with h | ⟨x, hx, h3⟩
      · exact .inl (ustep_cov hf0 (.inl h))
      · rcases List.mem_cons.mp hx with rfl | hx
        · exact .inl (ustep_cov hf0 (.inr h3))
        · exact .inr ⟨x, hx, h3⟩
theorem uni_cov {w : Int} {rs : List (Int × Int)} (h : Cov w rs) : Cov w (uniL rs) := by
  refine fold_cov (srt rs) [] (srt_sorted rs) (fun q hq => by cases hq) (.inr ?_)
  obtain ⟨r, hr, h2⟩ := h
  exact ⟨r, (srt_perm rs).mem_iff.mpr hr, h2⟩
theorem fold_bd {b : Int} : ∀ (l acc : List (Int × Int)), (∀ r ∈ l, 0 ≤ r.1 ∧ r.1 ≤ r.2 ∧ r.2 ≤ b) → (∀ r ∈ acc, 0 ≤ r.1 ∧ r.1 ≤ r.2 ∧ r.2 ≤ b) → ∀ r ∈ l.foldl ustep acc, 0 ≤ r.1 ∧ r.1 ≤ r.2 ∧ r.2 ≤ b
  | [], acc, _, h2 => h2
  | r :: l, acc, h1, h2 => by
    rw [List.foldl_cons]
    refine fold_bd l _ (fun x hx => h1 x (List.mem_cons_of_mem _ hx)) ?_
    have hr := h1 r (List.mem_cons_self ..)
    intro x hx
    rcases ustep_cases acc r with ⟨ss, q, rfl, h3, h4⟩ | h4
    · rw [h4] at hx
      rcases List.mem_append.mp hx with hx | hx
      · exact h2 x (List.mem_append_left _ hx)
      · have hq := h2 q (List.mem_append_right _ (List.mem_singleton.mpr rfl))
        rw [List.mem_singleton.mp hx]
        refine ⟨hq.1, ?_, ?_⟩
        · show q.1 ≤ if r.2 > q.2 then r.2 else q.2
          split <;> omega
        · show (if r.2 > q.2 then r.2 else q.2) ≤ b
          split <;> omega
    · rw [h4] at hx
      rcases List.mem_append.mp hx with hx | hx
      · exact h2 x hx
      · rw [List.mem_singleton.mp hx]
        exact hr
theorem uni_bd {b : Int} {rs : List (Int × Int)} (h : ∀ r ∈ rs, 0 ≤ r.1 ∧ r.1 ≤ r.2 ∧ r.2 ≤ b) : ∀ r ∈ uniL rs, 0 ≤ r.1 ∧ r.1 ≤ r.2 ∧ r.2 ≤ b :=
  fold_bd (srt rs) [] (fun r hr => h r ((srt_perm rs).mem_iff.mp hr)) fun r hr => by cases hr
theorem fold_len : ∀ (l acc : List (Int × Int)), (l.foldl ustep acc).length ≤ acc.length + l.length
  | [], acc => by simp
  | r :: l, acc => by
    rw [List.foldl_cons]
    have h := fold_len l (ustep acc r)
    have h2 : (ustep acc r).length ≤ acc.length + 1 := by
      rcases ustep_cases acc r with ⟨ss, q, rfl, h3, h4⟩ | h4
      · rw [h4]
        simp
      · rw [h4]
        simp
    simp only [List.length_cons]
    omega
theorem uni_len (rs : List (Int × Int)) : (uniL rs).length ≤ rs.length := by
  have h := fold_len (srt rs) []
  rw [(srt_perm rs).length_eq] at h
  simp only [List.length_nil, Nat.zero_add] at h
  exact h
def spreadL (rs : List (Int × Int)) : List Int := rs.flatMap fun r => (List.range (r.2 + 1 - r.1).toNat).map fun i => r.1 + (i : Nat)
theorem mem_spread {w : Int} {rs : List (Int × Int)} (h : Cov w rs) : w ∈ spreadL rs := by
  obtain ⟨r, hr, h1, h2⟩ := h
  refine List.mem_flatMap.mpr ⟨r, hr, List.mem_map.mpr ⟨(w - r.1).toNat, List.mem_range.mpr (by omega), by omega⟩⟩
/-! ### numbers of ticks by speed -/
def sumBy (f : Nat → Int) (rs : List (Nat × Nat)) : Int := (rs.map fun r => f r.1 * (r.2 : Int)).sum
theorem sumBy_cons (f : Nat → Int) (r : Nat × Nat) (rs : List (Nat × Nat)) : sumBy f (r :: rs) = f r.1 * (r.2 : Int) + sumBy f rs := by
  unfold sumBy
  rw [List.map_cons, List.sum_cons]
theorem sumBy_le {f g : Nat → Int} : ∀ {rs : List (Nat × Nat)}, (∀ r ∈ rs, f r.1 ≤ g r.1) → sumBy f rs ≤ sumBy g rs
  | [], _ => Int.le_refl _
  | r :: rs, h => by
    rw [sumBy_cons, sumBy_cons]
    have h1 := h r (List.mem_cons_self ..)
    have h2 := sumBy_le (rs := rs) fun x hx => h x (List.mem_cons_of_mem _ hx)
    have h3 : f r.1 * (r.2 : Int) ≤ g r.1 * (r.2 : Int) := Int.mul_le_mul_of_nonneg_right h1 (by omega)
    omega
theorem sumBy_congr {f g : Nat → Int} {rs : List (Nat × Nat)} (h : ∀ r ∈ rs, f r.1 = g r.1) : sumBy f rs = sumBy g rs :=
  Int.le_antisymm (sumBy_le fun r hr => Int.le_of_eq (h r hr)) (sumBy_le fun r hr => Int.le_of_eq (h r hr).symm)
theorem sumBy_add (f g : Nat → Int) : ∀ rs : List (Nat × Nat), sumBy (fun s => f s + g s) rs = sumBy f rs + sumBy g rs
  | [] => rfl
  | r :: rs => by
    rw [sumBy_cons, sumBy_cons, sumBy_cons, sumBy_add f g rs, Int.add_mul]
    omega
theorem sumBy_mul (c : Int) (f : Nat → Int) : ∀ rs : List (Nat × Nat), sumBy (fun s => c * f s) rs = c * sumBy f rs
  | [] => by
    show (0 : Int) = c * 0
    omega
  | r :: rs => by
    rw [sumBy_cons, sumBy_cons, sumBy_mul c f rs, Int.mul_add, Int.mul_assoc]
theorem sumBy_zero : ∀ rs : List (Nat × Nat), sumBy (fun _ => 0) rs = 0
  | [] => rfl
  | r :: rs => by
    rw [sumBy_cons, sumBy_zero rs, Int.zero_mul]
    rfl
structure Drawn (ticks : Nat) (top : Int) (rs : List (Nat × Nat)) : Prop where
  sp : ∀ r ∈ rs, (r.1 : Int) ≤ top
  all : sumBy (fun _ => 1) rs = (ticks : Int)
def wayD (rs : List (Nat × Nat)) : Int := sumBy (fun s => (s : Int)) rs
def worthE (time way : Int) (s : Int) : Int := if way * s > time then way * s else time
def worthB (time way : Int) (s : Int) : Int := time + way * s
theorem way_bd {ticks : Nat} {top : Int} {rs : List (Nat × Nat)} (D : Drawn ticks top rs) : 0 ≤ wayD rs ∧ wayD rs ≤ ticks * top := by
  have h1 : sumBy (fun _ => 0) rs ≤ wayD rs := sumBy_le fun r _ => by omega
  have h2 : wayD rs ≤ sumBy (fun _ => top * 1) rs := sumBy_le fun r hr => by
    have := D.sp r hr
    omega
  rw [sumBy_mul top (fun _ => 1), D.all, Int.mul_comm] at h2
  have h0 := sumBy_zero rs
  exact ⟨by omega, h2⟩
theorem both_cov {time way : Int} {ticks : Nat} {top : Int} {rs : List (Nat × Nat)} (D : Drawn ticks top rs) (hw : 0 ≤ way) : Cov (wayD rs) (bStrL time way ticks (sumBy (fun s => worthB time way s) rs) top) := by
  obtain ⟨b1, b2⟩ := way_bd D
  have hc : sumBy (fun s => worthB time way s) rs = time * ticks + way * wayD rs := by
    have e1 := sumBy_add (fun _ => time * 1) (fun s => way * (s : Int)) rs
    rw [sumBy_mul time (fun _ => 1), sumBy_mul way (fun s => (s : Int)), D.all] at e1
    refine Eq.trans ?_ e1
    refine sumBy_congr fun r _ => ?_
    unfold worthB
    omega
  have hr : sumBy (fun s => worthB time way s) rs - time * ticks = way * wayD rs := by omega
  unfold bStrL
  rw [hr]
  by_cases h : way = 0
  · rw [if_pos h, h, Int.zero_mul, if_pos rfl]
    exact ⟨_, List.mem_singleton.mpr rfl, b1, b2⟩
  · rw [if_neg h, Int.mul_emod_right, Int.mul_ediv_cancel_left _ h, if_pos ⟨rfl, b1, b2⟩]
    exact ⟨_, List.mem_singleton.mpr rfl, Int.le_refl _, Int.le_refl _⟩
theorem either_cov {time way : Int} {ticks : Nat} {top : Int} {rs : List (Nat × Nat)} (D : Drawn ticks top rs) (ht : 0 ≤ time) (hw : 0 ≤ way) (h0 : 0 ≤ top) : Cov (wayD rs) (eStrL time way ticks (sumBy (fun s => worthE time way s) rs) top) := by
  by_cases h : way = 0
  · have hc : sumBy (fun s => worthE time way s) rs = sumBy (fun s => worthB time way s) rs := sumBy_congr fun r _ => by
      unfold worthE worthB
      rw [h, Int.zero_mul, if_neg (by omega)]
      omega
    unfold eStrL
    rw [if_pos h, hc]
    exact both_cov D hw
  · have hw0 : 0 < way := by omega
    obtain ⟨m, hm⟩ : ∃ m, slowI time way top = m := ⟨_, rfl⟩
    have hdiv : ∀ s : Int, way * s ≤ time ↔ s ≤ time / way := fun s => by
      rw [Int.le_ediv_iff_mul_le hw0, Int.mul_comm]
    have hms : ∀ s : Int, s ≤ top → (way * s ≤ time ↔ s ≤ m) := fun s hs => by
      rw [hdiv, ← hm]
      unfold slowI
      split <;> omega
    have hm0 : 0 ≤ m ∧ m ≤ top := by
      have := Int.ediv_nonneg ht hw
      rw [← hm]
      unfold slowI
      split <;> omega
    -- slow ticks, and the ways of both kinds
    let sl : Nat → Int := fun s => if (s : Int) ≤ m then 1 else 0
    let fw : Nat → Int := fun s => if (s : Int) ≤ m then 0 else (s : Int)
    let sw : Nat → Int := fun s => if (s : Int) ≤ m then (s : Int) else 0
    let fa : Nat → Int := fun s => if (s : Int) ≤ m then 0 else 1
    have e1 : wayD rs = sumBy fw rs + sumBy sw rs := by
      rw [← sumBy_add]
      refine sumBy_congr fun r _ => ?_
      show (r.1 : Int) = (if (r.1 : Int) ≤ m then 0 else (r.1 : Int)) + (if (r.1 : Int) ≤ m then (r.1 : Int) else 0)
      split <;> omega
    have e2 : sumBy sl rs + sumBy fa rs = ticks := by
      rw [← sumBy_add, ← D.all]
      refine sumBy_congr fun r _ => ?_
      show (if (r.1 : Int) ≤ m then (1 : Int) else 0) + (if (r.1 : Int) ≤ m then (0 : Int) else 1) = 1
      split <;> omega
    have e3 : sumBy (fun s => worthE time way s) rs = time * sumBy sl rs + way * sumBy fw rs := by
      rw [← sumBy_mul, ← sumBy_mul, ← sumBy_add]
      refine sumBy_congr fun r hr => ?_
      have q := hms r.1 (D.sp r hr)
      show (if way * (r.1 : Int) > time then way * (r.1 : Int) else time) = time * (if (r.1 : Int) ≤ m then (1 : Int) else 0) + way * (if (r.1 : Int) ≤ m then (0 : Int) else (r.1 : Int))
      by_cases hle : (r.1 : Int) ≤ m
      · have q2 := q.mpr hle
        rw [if_neg (by omega), if_pos hle, if_pos hle]
        omega
      · have q2 : ¬ way * (r.1 : Int) ≤ time := fun z => hle (q.mp z)
        rw [if_pos (by omega), if_neg hle, if_neg hle]
        omega
    have z0 := sumBy_zero rs
    have p1 : 0 ≤ sumBy sl rs := by
      rw [← z0]
      refine sumBy_le fun r _ => ?_
      show (0 : Int) ≤ if (r.1 : Int) ≤ m then 1 else 0
      split <;> omega
    have p2 : 0 ≤ sumBy fa rs := by
      rw [← z0]
      refine sumBy_le fun r _ => ?_
      show (0 : Int) ≤ if (r.1 : Int) ≤ m then 0 else 1
      split <;> omega
    have p3 : 0 ≤ sumBy sw rs := by
      rw [← z0]
      refine sumBy_le fun r _ => ?_
      show (0 : Int) ≤ if (r.1 : Int) ≤ m then (r.1 : Int) else 0
      split <;> omega
    have p4 : sumBy sw rs ≤ m * sumBy sl rs := by
      rw [← sumBy_mul]
      refine sumBy_le fun r _ => ?_
      show (if (r.1 : Int) ≤ m then (r.1 : Int) else 0) ≤ m * (if (r.1 : Int) ≤ m then (1 : Int) else 0)
      split <;> omega
    have p5 : (m + 1) * sumBy fa rs ≤ sumBy fw rs := by
      rw [← sumBy_mul]
      refine sumBy_le fun r _ => ?_
      show (m + 1) * (if (r.1 : Int) ≤ m then (0 : Int) else 1) ≤ (if (r.1 : Int) ≤ m then 0 else (r.1 : Int))
      split <;> omega
    have p6 : sumBy fw rs ≤ top * sumBy fa rs := by
      rw [← sumBy_mul]
      refine sumBy_le fun r hr => ?_
      have := D.sp r hr
      show (if (r.1 : Int) ≤ m then 0 else (r.1 : Int)) ≤ top * (if (r.1 : Int) ≤ m then (0 : Int) else 1)
      split <;> omega
    obtain ⟨k, hk⟩ : ∃ k : Nat, sumBy sl rs = k := ⟨(sumBy sl rs).toNat, by omega⟩
    have hfa : sumBy fa rs = (ticks : Int) - k := by omega
    have hpart : partOf time way ticks top k = some ((k : Int), m, ((ticks : Int) - k) * (m + 1), ((ticks : Int) - k) * top) := by
      unfold partOf
      rw [hm, if_pos]
      by_cases hz : (ticks : Int) - k = 0
      · exact .inl hz
      · right
        apply Decidable.byContradiction
        intro hn
        have hmt : m = top := by omega
        have q1 : (m + 1) * sumBy fa rs ≤ top * sumBy fa rs := Int.le_trans p5 p6
        rw [hmt, Int.add_mul] at q1
        omega
    unfold eStrL
    rw [if_neg h]
    refine ⟨(sumBy fw rs, sumBy fw rs + k * m), List.mem_filterMap.mpr ⟨_, List.mem_filterMap.mpr ⟨k, List.mem_range.mpr (by omega), hpart⟩, ?_⟩, ?_⟩
    · have hrest : sumBy (fun s => worthE time way s) rs - time * (k : Int) = way * sumBy fw rs := by
        rw [e3, hk]
        omega
      show (if (sumBy (fun s => worthE time way s) rs - time * (k : Int)) % way = 0 ∧ ((ticks : Int) - k) * (m + 1) ≤ (sumBy (fun s => worthE time way s) rs - time * (k : Int)) / way ∧ (sumBy (fun s => worthE time way s) rs - time * (k : Int)) / way ≤ ((ticks : Int) - k) * top then some ((sumBy (fun s => worthE time way s) rs - time * (k : Int)) / way, (sumBy (fun s => worthE time way s) rs - time * (k : Int)) / way + (k : Int) * m) else none) = _
      rw [hrest, Int.mul_emod_right, Int.mul_ediv_cancel_left _ h, if_pos]
      refine ⟨rfl, ?_, ?_⟩
      · rw [← hfa, Int.mul_comm]
        exact p5
      · rw [← hfa, Int.mul_comm]
        exact p6
    · refine ⟨?_, ?_⟩
      · show sumBy fw rs ≤ wayD rs
        omega
      · show wayD rs ≤ sumBy fw rs + k * m
        rw [hk, Int.mul_comm] at p4
        omega
/-! ### bounds of the stretches -/
theorem b_bd {time way : Int} {ticks : Nat} {count top : Int} (h1 : ticks ≤ 400) (h2 : 0 ≤ top) (h3 : top ≤ 9) : ∀ r ∈ bStrL time way ticks count top, 0 ≤ r.1 ∧ r.1 ≤ r.2 ∧ r.2 ≤ 10000 := by
  have hm : (ticks : Int) * top ≤ 3600 := by
    have q1 : (ticks : Int) * top ≤ 400 * top := Int.mul_le_mul_of_nonneg_right (by omega) h2
    omega
  intro r hr
  unfold bStrL at hr
  split at hr
  · split at hr
    · rw [List.mem_singleton.mp hr]
      have q0 : 0 ≤ (ticks : Int) * top := Int.mul_nonneg (by omega) h2
      exact ⟨Int.le_refl _, q0, by show (ticks : Int) * top ≤ 10000; omega⟩
    · cases hr
  · split at hr
    · rename_i hc
      rw [List.mem_singleton.mp hr]
      exact ⟨hc.2.1, Int.le_refl _, by show (count - time * ticks) / way ≤ 10000; omega⟩
    · cases hr
theorem e_bd {time way : Int} {ticks : Nat} {count top : Int} (ht : 0 ≤ time) (hw : 0 ≤ way) (h1 : ticks ≤ 400) (h2 : 0 ≤ top) (h3 : top ≤ 9) : ∀ r ∈ eStrL time way ticks count top, 0 ≤ r.1 ∧ r.1 ≤ r.2 ∧ r.2 ≤ 10000 := by
  intro r hr
  unfold eStrL at hr
  split at hr
  · exact b_bd h1 h2 h3 r hr
  · rename_i hw0
    obtain ⟨q, hq, hs⟩ := List.mem_filterMap.mp hr
    obtain ⟨s, hsr, hp⟩ := List.mem_filterMap.mp hq
    have hsr := List.mem_range.mp hsr
    obtain ⟨b1, b2⟩ := slow_bd ht (show 0 < way by omega) h2 h3
    unfold partOf at hp
    split at hp
    · cases hp
      unfold strOf at hs
      split at hs
      · rename_i hc
        cases hs
        obtain ⟨_, c1, c2⟩ := hc
        have f0 : (0 : Int) ≤ (ticks : Int) - s := by omega
        have f1 : 0 ≤ ((ticks : Int) - s) * (slowI time way top + 1) := Int.mul_nonneg f0 (by omega)
        have f2 : ((ticks : Int) - s) * top ≤ 400 * top := Int.mul_le_mul_of_nonneg_right (by omega) h2
        have f3 : (s : Int) * slowI time way top ≤ (s : Int) * 9 := Int.mul_le_mul_of_nonneg_left b2 (by omega)
        have f4 : 0 ≤ (s : Int) * slowI time way top := Int.mul_nonneg (by omega) b1
        exact ⟨Int.le_trans f1 c1, by show (count - time * (s : Int)) / way ≤ (count - time * (s : Int)) / way + (s : Int) * slowI time way top; omega, by show (count - time * (s : Int)) / way + (s : Int) * slowI time way top ≤ 10000; have c2 : (count - time * (s : Int)) / way ≤ ((ticks : Int) - s) * top := c2; omega⟩
      · cases hs
    · cases hp

section
variable {P : Program} {w : World} {K : PySem.W.Frag} {mg : Str → Option Value} {base : Heap}
abbrev s_law_united : Stmt := top 30
theorem sc_law_united : FnScope ["_law_stretches", "_law_found", "_law_low", "_law_high"] ["_law_stretches"] (defScope s_law_united) := ⟨rfl, rfl, rfl, by decide +kernel, rfl, by decide +kernel, by decide +kernel⟩
def sp_law_united : Sp := fun vs H Q _ => ∃ (a : Addr) (xs : List V) (rs : List (Int × Int)), vs = [.ref a] ∧ H a = some (.lst xs) ∧ TupAt H tI xs rs ∧ rs.length ≤ 1000 ∧ ∀ p ys H', Same H H' → H p = none → H' p = some (.lst ys) → TupAt H' tI ys (uniL rs) → Q (.ref p) H'
theorem ok_law_united (D : Df K mg "_law_united" s_law_united ["_law_stretches"]) (T : Txt K mg) : Fn P w K mg base "_law_united" 1 ["_law_stretches"] sp_law_united := by
  refine D.ok sc_law_united (fun vs H Q E h => ?_) (fun f cdv A outer s H vs Q E hr h => ?_)
  · obtain ⟨a, xs, rs, rfl, _⟩ := h
    rfl
  · obtain ⟨a, xs, rs, rfl, hx, t, hlen, k⟩ := h
    refine ⟨_, (pss_cons (ps_set (i := 1) sc_law_united.nd rfl (Or.inl rfl) (pe_lst pa_nil))
      (pss_cons (ps_for PassesOwn.never rfl (pi_list (pe_callB call_sortPF (by rfl) T.n_sorted (by decide +kernel) (pa_cons (pv 0) pa_nil))) (pg_tupF (n := 2) rfl (pgs_cons (pg_name (i := 2) sc_law_united.nd rfl (Or.inl rfl)) (pgs_cons (pg_name (i := 3) sc_law_united.nd rfl (Or.inl rfl)) pgs_nil))) (pss_one (ps_if (PW.pt (pw_and (pt_cmpR (op_neX (K := K) hr.units) (pv 1) (pe_lst pa_nil) (nomark _)) (pw_and1 (pt_cmpR op_leF (pv 2) (pe_op op_addF (pe_ix ix_F (pe_ix ix_F (pv 1) (pe_un un_neg pe_int) (fun _ _ => rfl)) pe_int (fun _ _ => rfl)) pe_int) (nomark _))))) (pss_one (ps_asg (pe_tup (pa_cons (pe_ix ix_F (pe_ix ix_F (pv 1) (pe_un un_neg pe_int) (fun _ _ => rfl)) pe_int (fun _ _ => rfl)) (pa_cons (pe_callB (call_maxF rfl) (by rfl) T.n_max (by decide +kernel) (pa_cons (pe_ix ix_F (pe_ix ix_F (pv 1) (pe_un un_neg pe_int) (fun _ _ => rfl)) pe_int (fun _ _ => rfl)) (pa_cons (pv 3) pa_nil))) pa_nil))) (pg_sub (pv 1) (pe_un un_neg pe_int) set_F))) (pss_one (ps_expr (pe_lm PySem.F.slot_list_append PySem.F.type_list_append mt_appF (pv 1) (pa_cons (pe_tup (pa_cons (pv 2) (pa_cons (pv 3) pa_nil))) pa_nil)))))))
      (pss_one (ps_ret (pv 1))))), ?_⟩
    walk_at "go"
    refine new_in fun p H1 hp S1 h1 => ?_
    walk_at "go"
    refine ⟨xs, rs, S1 _ _ hx, t.mono (same_tup S1), fun ys q H2 S2 hq h2 t2 => ?_⟩
    have hl2 := t2.len
    have hl3 := (srt_perm rs).length_eq
    walk_at "go"
    refine ⟨⟨_, SqL.of h2⟩, ?_⟩
    have npq : p ≠ q := ne_of_none h1 hq
    refine lp_list ys (fun i σ H' => ∃ fs v2 v3, σ = [some (.ref a), some (.ref p), v2, v3] ∧ Same H H' ∧ H' p = some (.lst fs) ∧ H' q = some (.lst ys) ∧ TupAt H' tI ys (srt rs) ∧ TupAt H' tI fs (((srt rs).take i).foldl ustep []) ∧ fs.length ≤ i) ⟨[], none, none, rfl, S1.trans S2, S2 _ _ h1, h2, t2, trivial, Nat.le_refl _⟩ ?_ ?_ ?_
    · rintro i σ H' hi ⟨fs, v2, v3, _, _, _, h, _⟩
      exact h
    · rintro i x σ H' hx' ⟨fs, v2, v3, rfl, S3, h3, h4, t3, t4, hfl⟩
      obtain ⟨b, r, rfl, hr1, hb⟩ := t3.get hx'
      have hi : i < ys.length := (List.getElem?_eq_some_iff.mp hx').1
      have hstep : ((srt rs).take (i + 1)).foldl ustep [] = ustep (((srt rs).take i).foldl ustep []) r := by
        rw [List.take_add_one, hr1, List.foldl_append]
        rfl
      generalize hzs : ((srt rs).take i).foldl ustep [] = zs at *
      obtain ⟨lo, hi2⟩ := r
      have hb : H' b = some (.tup [.int lo, .int hi2]) := hb
      walk_at "go"
      rw [hb]
      walk_at "go"
      refine new_in fun e H4 he S4 h5 => ?_
      walk_at "go"
      refine sd_nil (S4 _ _ h3) (t4.mono (same_tup S4)) h5 ?_
      have t4' := t4.mono (same_tup S4)
      have t3' := t3.mono (same_tup S4)
      have h3' := S4 _ _ h3
      have h4' := S4 _ _ h4
      have S4' := S3.trans S4
      -- what both ways of going on come to
      have app : zs = [] ∨ (∃ ss r, zs = ss ++ [r] ∧ ¬ lo ≤ r.2 + 1) → ∀ H5 c, Same H4 H5 → H4 c = none → H5 c = some (.tup [.int lo, .int hi2]) → ∃ fs' v2' v3', [some (V.ref a), some (.ref p), some (.int lo), some (.int hi2)] = [some (.ref a), some (.ref p), v2', v3'] ∧ Same H (upd H5 p (.lst (fs ++ [.ref c]))) ∧ upd H5 p (.lst (fs ++ [.ref c])) p = some (.lst fs') ∧ upd H5 p (.lst (fs ++ [.ref c])) q = some (.lst ys) ∧ TupAt (upd H5 p (.lst (fs ++ [.ref c]))) tI ys (srt rs) ∧ TupAt (upd H5 p (.lst (fs ++ [.ref c]))) tI fs' (((srt rs).take (i + 1)).foldl ustep []) ∧ fs'.length ≤ i + 1 := by
        intro hz H5 c S5 hc h6
        have keep : ∀ b zs, H5 b = some (.tup zs) → upd H5 p (.lst (fs ++ [.ref c])) b = some (.tup zs) := fun b zs hb => by
          rw [upd_ne (ne_of hb (S5 _ _ h3') (by intro z; cases z))]
          exact hb
        refine ⟨fs ++ [.ref c], _, _, rfl, sm_mut (S4'.trans S5) hp, upd_same, by rw [upd_ne npq.symm]; exact S5 _ _ h4', (t3'.mono (same_tup S5)).mono keep, ?_, by rw [List.length_append]; simp only [List.length_cons, List.length_nil]; omega⟩
        rw [hstep, ustep_app hz]
        exact (TupAt.snoc (r := (lo, hi2)) h6 (t4'.mono (same_tup S5))).mono keep
      by_cases hz : zs = []
      · subst hz
        walk_at "go"
        rw [h3']
        walk_at "go"
        refine new_in fun c H5 hc S5 h6 => ?_
        rw [S5 _ _ h3']
        walk_at "go"
        exact app (.inl rfl) H5 c S5 hc h6
      · obtain ⟨gs, la, ss, r, rfl, rfl, t5, hla⟩ := t4'.last hz
        have e1 : atI (gs ++ [.ref la]) (-1) = some (.ref la) := by
          rw [at_last, List.length_append, List.getElem?_append_right (by simp)]
          simp
        have e2 : (ss ++ [r]).isEmpty = false := by
          cases ss <;> rfl
        obtain ⟨r1, r2⟩ := r
        have hla : H4 la = some (.tup [.int r1, .int r2]) := hla
        rw [e2]
        walk_at "go"
        rw [h3']
        walk_at "go"
        rw [e1]
        walk_at "go"
        rw [hla]
        walk_at "go"
        refine ite2 (fun hle => ?_) (fun hle => ?_)
        · rw [h3']
          walk_at "go"
          rw [e1]
          walk_at "go"
          rw [hla]
          walk_at "go"
          rw [h3']
          walk_at "go"
          rw [e1]
          walk_at "go"
          rw [hla]
          walk_at "go"
          refine new_in fun c H5 hc S5 h6 => ?_
          have hpos : 0 < (gs ++ [V.ref la]).length := by simp
          walk_at "go"
          simp only [S5 _ _ h3', f_setO, ix_m1 hpos]
          have eset : (gs ++ [V.ref la]).set ((gs ++ [V.ref la]).length - 1) (.ref c) = gs ++ [.ref c] := by
            rw [List.length_append, List.set_append_right _ _ (by simp)]
            simp
          rw [eset]
          have keep : ∀ b zs, H5 b = some (.tup zs) → upd H5 p (.lst (gs ++ [.ref c])) b = some (.tup zs) := fun b zs hb => by
            rw [upd_ne (ne_of hb (S5 _ _ h3') (by intro z; cases z))]
            exact hb
          refine ⟨gs ++ [.ref c], _, _, rfl, sm_mut (S4'.trans S5) hp, upd_same, by rw [upd_ne npq.symm]; exact S5 _ _ h4', (t3'.mono (same_tup S5)).mono keep, ?_, by rw [List.length_append] at hfl ⊢; simp only [List.length_cons, List.length_nil] at hfl ⊢; omega⟩
          rw [hstep, ustep_join hle]
          exact (TupAt.snoc (r := (r1, if hi2 > r2 then hi2 else r2)) h6 (t5.mono (same_tup S5))).mono keep
        · rw [h3']
          walk_at "go"
          refine new_in fun c H5 hc S5 h6 => ?_
          rw [S5 _ _ h3']
          walk_at "go"
          refine ⟨?_, app (.inr ⟨ss, _, rfl, hle⟩) H5 c S5 hc h6⟩
          rw [List.length_append] at hfl
          simp only [List.length_cons, List.length_nil] at hfl
          omega
    · rintro σ H' ⟨fs, v2, v3, rfl, S3, h3, h4, t3, t4, hfl⟩
      walk_at "go"
      rw [List.take_of_length_le (by omega)] at t4
      exact k p fs H' S3 hp h3 t4

abbrev s_law_spread : Stmt := top 29
theorem sc_law_spread : FnScope ["_law_told", "_law_found", "_law_low", "_law_high"] ["_law_told"] (defScope s_law_spread) := ⟨rfl, rfl, rfl, by decide +kernel, rfl, by decide +kernel, by decide +kernel⟩
def sp_law_spread : Sp := fun vs H Q _ => ∃ (a : Addr) (xs : List V) (rs : List (Int × Int)), vs = [.ref a] ∧ H a = some (.lst xs) ∧ TupAt H tI xs rs ∧ rs.length ≤ 500 ∧ (∀ r ∈ rs, 0 ≤ r.1 ∧ r.1 ≤ r.2 ∧ r.2 ≤ 10000) ∧ ∀ p H', Same H H' → H p = none → H' p = some (.lst ((spreadL rs).map V.int)) → Q (.ref p) H'
theorem spread_next {rs : List (Int × Int)} {i : Nat} {r : Int × Int} (h : rs[i]? = some r) : spreadL (rs.take (i + 1)) = spreadL (rs.take i) ++ (List.range (r.2 + 1 - r.1).toNat).map fun j => r.1 + (j : Nat) := by
  unfold spreadL
  rw [List.take_add_one, h, List.flatMap_append]
  simp
theorem ok_law_spread (D : Df K mg "_law_spread" s_law_spread ["_law_told"]) (T : Txt K mg) : Fn P w K mg base "_law_spread" 1 ["_law_told"] sp_law_spread := by
  refine D.ok sc_law_spread (fun vs H Q E h => ?_) (fun f cdv A outer s H vs Q E hr h => ?_)
  · obtain ⟨a, xs, rs, rfl, _⟩ := h
    rfl
  · obtain ⟨a, xs, rs, rfl, hx, t, hlen, hb, k⟩ := h
    have hxl := t.len
    refine ⟨_, (pss_cons (ps_set (i := 1) sc_law_spread.nd rfl (Or.inl rfl) (pe_lst pa_nil))
      (pss_cons (ps_for PassesOwn.never rfl (pi_list (pv 0)) (pg_tupF (n := 2) rfl (pgs_cons (pg_name (i := 2) sc_law_spread.nd rfl (Or.inl rfl)) (pgs_cons (pg_name (i := 3) sc_law_spread.nd rfl (Or.inl rfl)) pgs_nil))) (pss_one (ps_set (i := 1) sc_law_spread.nd rfl (Or.inl rfl) (pe_op op_addF (pv 1) (pe_listRg rfl (by rfl) T.n_list (prg_2 (by rfl) T.n_range (pv 2) (pe_op op_addF (pv 3) pe_int)))))))
      (pss_one (ps_ret (pv 1))))), ?_⟩
    walk_at "go"
    refine new_in fun p H1 hp S1 g1 => ?_
    walk_at "go"
    refine ⟨⟨_, SqL.of (S1 _ _ hx)⟩, ?_⟩
    refine lp_list xs (fun i σ H' => ∃ q v2 v3, σ = [some (.ref a), some (.ref q), v2, v3] ∧ Same H H' ∧ H q = none ∧ H' q = some (.lst ((spreadL (rs.take i)).map V.int)) ∧ (spreadL (rs.take i)).length ≤ i * 10001) ⟨p, none, none, rfl, S1, hp, g1, by simp [spreadL]⟩ ?_ ?_ ?_
    · rintro i σ H' hi ⟨q, v2, v3, _, S, _⟩
      exact S _ _ hx
    · rintro i x σ H' hx' ⟨q, v2, v3, rfl, S3, hq, g3, hl3⟩
      obtain ⟨b, r, rfl, hr1, hb1⟩ := t.get hx'
      have hi : i < xs.length := (List.getElem?_eq_some_iff.mp hx').1
      have hrb := hb r (List.mem_of_getElem? hr1)
      have hnext := spread_next hr1
      obtain ⟨lo, hi2⟩ := r
      have hrb : 0 ≤ lo ∧ lo ≤ hi2 ∧ hi2 ≤ 10000 := hrb
      have hb1 : H b = some (.tup [.int lo, .int hi2]) := hb1
      have hb2 := S3 _ _ hb1
      walk_at "go"
      rw [hb2]
      walk_at "go"
      refine ⟨RgOk.of_le hrb.1 (by omega) (by omega) (by omega), ?_⟩
      rw [rg_eq]
      refine new_in fun c H5 hc S5 g5 => ?_
      walk_at "go"
      rw [S5 _ _ g3, g5]
      walk_at "go"
      simp only [List.length_map, List.length_range]
      refine ⟨by omega, ?_⟩
      refine new_in fun d H6 hd S6 g6 => ?_
      refine ⟨d, some (.int lo), some (.int hi2), rfl, S3.trans (S5.trans S6), (S3.trans S5).free hd, ?_, ?_⟩
      · rw [g6, hnext, List.map_append]
      · rw [hnext, List.length_append, List.length_map, List.length_range]
        show _ + (hi2 + 1 - lo).toNat ≤ _
        omega
    · rintro σ H' ⟨q, v2, v3, rfl, S3, hq, g3, hl3⟩
      walk_at "go"
      rw [List.take_of_length_le (by omega)] at g3
      exact k q H' S3 hq g3
theorem two9 {r : Int} (h0 : 0 ≤ r) (h1 : r < 2) : ∃ n : Int, [V.int 9, V.int 61][r.toNat]? = some (.int n) ∧ 0 < n ∧ n ≤ 61 := by
  have h : r = 0 ∨ r = 1 := by omega
  rcases h with rfl | rfl
  · exact ⟨_, rfl, by decide, by decide⟩
  · exact ⟨_, rfl, by decide, by decide⟩
abbrev s_law_rates : Stmt := top 31
theorem sc_law_rates : FnScope ["_law_bag_here"] ["_law_bag_here"] (defScope s_law_rates) := ⟨rfl, rfl, rfl, by decide +kernel, rfl, by decide +kernel, by decide +kernel⟩
def sp_law_rates : Sp := fun vs H Q _ => ∃ (b sp : Addr), vs = [.ref b] ∧ Bag H b sp ∧ ∀ (t : Addr) (time way : Int) H', H t = none → H' t = some (.tup [.int time, .int way]) → 0 ≤ time → time ≤ 60 → 0 ≤ way → way ≤ 6 → Bag H' b sp → Kp b H H' → Q (.ref t) H'
theorem ok_law_rates (D : Df K mg "_law_rates" s_law_rates ["_law_bag_here"]) (F_law_draw : Fn P w K mg base "_law_draw" 1 ["_law_bag_here", "_law_size"] sp_law_draw) (T : Txt K mg) : Fn P w K mg base "_law_rates" 2 ["_law_bag_here"] sp_law_rates := by
  refine D.ok sc_law_rates (fun vs H Q E h => ?_) (fun f cdv A outer s H vs Q E hr h => ?_)
  · obtain ⟨b, sp, rfl, _⟩ := h
    rfl
  · obtain ⟨b, sp, rfl, B, k⟩ := h
    refine ⟨_, (pss_one (ps_ret (pe_tup (pa_cons (pe_fn F_law_draw (hr.mono (by decide)) rfl (pa_cons (pv 0) (pa_cons (pe_ix ix_F (pe_lst (pa_cons pe_int (pa_cons pe_int pa_nil))) (pe_fn F_law_draw (hr.mono (by decide)) rfl (pa_cons (pv 0) (pa_cons pe_int pa_nil))) (fun _ _ => rfl)) pa_nil))) (pa_cons (pe_fn F_law_draw (hr.mono (by decide)) rfl (pa_cons (pv 0) (pa_cons pe_int pa_nil))) pa_nil))))), ?_⟩
    walk_at "go"
    refine new_in fun p H1 hp S1 h1 => ?_
    have np := B.ne hp
    walk_at "go"
    refine ⟨b, sp, _, rfl, B.same S1, by decide, by decide, fun r H2 h20 h21 B2 e2 => ?_⟩
    obtain ⟨n, hn, hn0, hn1⟩ := two9 h20 h21
    walk_at "go"
    rw [e2 p np.1, h1]
    simp only [f_at1, at_nn h20]
    rw [hn]
    walk_at "go"
    refine ⟨b, sp, _, rfl, B2, by omega, by omega, fun time H3 h30 h31 B3 e3 => ?_⟩
    walk_at "go"
    refine ⟨b, sp, _, rfl, B3, by decide, by decide, fun way H4 h40 h41 B4 e4 => ?_⟩
    walk_at "go"
    refine new_in fun t H5 ht S5 h5 => ?_
    have nt := B4.ne ht
    have hb : ∀ q, q ≠ b → H4 q = H1 q := fun q hq => by rw [e4 q hq, e3 q hq, e2 q hq]
    refine k t time way H5 ?_ h5 h30 (by omega) h40 (by omega) (B4.same S5) fun q o hq e => S5 _ _ (by rw [hb q hq]; exact S1 _ _ e)
    refine S1.free ?_
    rw [← hb t nt.1]
    exact ht
def worthsL (e : Bool) (time way : Int) : List Int := (List.range 10).map fun s : Nat => if e then worthE time way s else worthB time way s
abbrev s_law_worths_by : Stmt := top 32
theorem sc_law_worths_by : FnScope ["_law_is_either", "_law_time", "_law_way", "_law_speed"] ["_law_is_either", "_law_time", "_law_way"] (defScope s_law_worths_by) := ⟨rfl, rfl, rfl, by decide +kernel, rfl, by decide +kernel, by decide +kernel⟩
def sp_law_worths_by : Sp := fun vs H Q _ => ∃ (e : Bool) (time way : Int), vs = [.bl e, .int time, .int way] ∧ 0 ≤ way ∧ way ≤ 6 ∧ ∀ p H', Same H H' → H p = none → H' p = some (.lst ((worthsL e time way).map V.int)) → Q (.ref p) H'
theorem ok_law_worths_by (D : Df K mg "_law_worths_by" s_law_worths_by ["_law_is_either", "_law_time", "_law_way"]) (T : Txt K mg) : Fn P w K mg base "_law_worths_by" 1 ["_law_is_either", "_law_time", "_law_way"] sp_law_worths_by := by
  refine D.ok sc_law_worths_by (fun vs H Q E h => ?_) (fun f cdv A outer s H vs Q E hr h => ?_)
  · obtain ⟨a, b, c, rfl, _⟩ := h
    rfl
  · obtain ⟨e, time, way, rfl, hw, hw6, k⟩ := h
    refine ⟨_, (pss_cons (ps_if (pt_val (pv 0)) (pss_one (ps_ret (pe_lc (own := [("_law_speed", 3)]) (g := (gName 3)) rfl sc_law_worths_by.nd (pi_range1 (by rfl) T.n_range (pa_cons pe_int pa_nil)) (blkOk_by (own := [("_law_speed", 3)]) (N := ["_law_is_either", "_law_time", "_law_way", "_law_speed"]) (sc := defScope s_law_worths_by) (by decide +kernel)) (fun _ _ _ _ _ => (pg_name (i := 3) sc_law_worths_by.nd rfl (Or.inl rfl))) (fun _ _ _ _ _ => pts_nil) (fun _ _ _ _ _ => (pe_callB (call_maxF rfl) (by rfl) T.n_max (by decide +kernel) (pa_cons (pv 1) (pa_cons (pe_op op_mulF (pv 2) (pv 3)) pa_nil))))))) pss_nil)
      (pss_one (ps_ret (pe_lc (own := [("_law_speed", 3)]) (g := (gName 3)) rfl sc_law_worths_by.nd (pi_range1 (by rfl) T.n_range (pa_cons pe_int pa_nil)) (blkOk_by (own := [("_law_speed", 3)]) (N := ["_law_is_either", "_law_time", "_law_way", "_law_speed"]) (sc := defScope s_law_worths_by) (by decide +kernel)) (fun _ _ _ _ _ => (pg_name (i := 3) sc_law_worths_by.nd rfl (Or.inl rfl))) (fun _ _ _ _ _ => pts_nil) (fun _ _ _ _ _ => (pe_op op_addF (pv 1) (pe_op op_mulF (pv 2) (pv 3)))))))), ?_⟩
    cases e with
    | true =>
      walk_at "go"
      intro D hD
      refine lpc_gen (walkR 0 10) rfl hD (by decide) (fun s : Nat => some (.int (worthE time way s))) (fun H' => Same H H') (Same.refl _) (fun H o h => sm_mut h hD) (fun _ _ => trivial) ?_ ?_
      · rintro c H1 N M hc S1 ⟨acc, ha, hN, hM⟩
        rw [show (0 : Int) + (c : Int) = (c : Int) by omega]
        walk_at "go"
        exact hN _ _ rfl S1 ha
      · intro H1 S1 h1
        rw [fm_int] at h1
        exact k D H1 S1 hD h1
    | false =>
      walk_at "go"
      intro D hD
      refine lpc_gen (walkR 0 10) rfl hD (by decide) (fun s : Nat => some (.int (worthB time way s))) (fun H' => Same H H') (Same.refl _) (fun H o h => sm_mut h hD) (fun _ _ => trivial) ?_ ?_
      · rintro c H1 N M hc S1 ⟨acc, ha, hN, hM⟩
        rw [show (0 : Int) + (c : Int) = (c : Int) by omega]
        walk_at "go"
        exact hN _ _ rfl S1 ha
      · intro H1 S1 h1
        rw [fm_int] at h1
        exact k D H1 S1 hD h1
/-! ### the law's own stretches are the program's -/
theorem fm_congr {α β : Type} {f g : α → Option β} : ∀ {l : List α}, (∀ a ∈ l, f a = g a) → l.filterMap f = l.filterMap g
  | [], _ => rfl
  | a :: l, h => by
    rw [List.filterMap_cons, List.filterMap_cons, h a (List.mem_cons_self ..), fm_congr fun b hb => h b (List.mem_cons_of_mem _ hb)]
theorem filt_le (n m : Nat) (h : m ≤ n) (p : Nat → Bool) (hp : ∀ s, s ≤ n → (p s = true ↔ s ≤ m)) : (List.range (n + 1)).filterMap (fun s => if p s = true then some s else none) = List.range (m + 1) := by
  induction n with
  | zero =>
    have hm : m = 0 := by omega
    subst hm
    have := (hp 0 (Nat.le_refl _)).mpr (Nat.le_refl _)
    simp [this]
  | succ n ih =>
    rw [List.range_succ, List.filterMap_append]
    by_cases hm : m = n + 1
    · subst hm
      have h1 : (List.range (n + 1)).filterMap (fun s => if p s = true then some s else none) = List.range (n + 1) := by
        rw [fm_congr (g := some) fun s hs => ?_]
        · simp
        · have := List.mem_range.mp hs
          rw [if_pos ((hp s (by omega)).mpr (by omega))]
      have h2 := (hp (n + 1) (Nat.le_refl _)).mpr (Nat.le_refl _)
      rw [h1, List.range_succ (n := n + 1)]
      simp [h2]
    · rw [ih (by omega) fun s hs => hp s (by omega)]
      have h2 : ¬ p (n + 1) = true := fun z => by
        have := (hp (n + 1) (Nat.le_refl _)).mp z
        omega
      simp [h2]
theorem filt_gt (n m : Nat) (h : m ≤ n) (p : Nat → Bool) (hp : ∀ s, s ≤ n → (p s = true ↔ m < s)) : (List.range (n + 1)).filterMap (fun s => if p s = true then some s else none) = (List.range (n - m)).map (· + (m + 1)) := by
  induction n with
  | zero =>
    have hm : m = 0 := by omega
    subst hm
    have : ¬ p 0 = true := fun z => absurd ((hp 0 (Nat.le_refl _)).mp z) (by omega)
    simp [this]
  | succ n ih =>
    rw [List.range_succ, List.filterMap_append]
    by_cases hm : m = n + 1
    · subst hm
      have h1 : (List.range (n + 1)).filterMap (fun s => if p s = true then some s else none) = [] := by
        rw [List.filterMap_eq_nil_iff]
        intro s hs
        have := List.mem_range.mp hs
        rw [if_neg fun z => absurd ((hp s (by omega)).mp z) (by omega)]
      have h2 : ¬ p (n + 1) = true := fun z => absurd ((hp (n + 1) (Nat.le_refl _)).mp z) (by omega)
      rw [h1]
      simp [h2]
    · rw [ih (by omega) fun s hs => hp s (by omega)]
      have h2 := (hp (n + 1) (Nat.le_refl _)).mpr (by omega)
      rw [show n + 1 - m = (n - m) + 1 by omega, List.range_succ, List.map_append]
      simp [h2]
      omega
/-- the greatest slow speed, as a natural number, whatever the rate of the way is -/
def slowN (time way top : Int) : Nat := (if way = 0 then top else slowI time way top).toNat
theorem slowN_spec {time way top : Int} (ht : 0 ≤ time) (hw : 0 ≤ way) (h0 : 0 ≤ top) : (slowN time way top : Int) ≤ top ∧ (∀ s : Nat, (s : Int) ≤ top → (way * (s : Int) ≤ time ↔ s ≤ slowN time way top)) ∧ (way ≠ 0 → slowI time way top = slowN time way top) ∧ (way = 0 → (slowN time way top : Int) = top) := by
  by_cases h : way = 0
  · have e : slowN time way top = top.toNat := by
      unfold slowN
      rw [if_pos h]
    rw [e]
    refine ⟨by omega, fun s hs => ?_, fun z => absurd h z, fun _ => by omega⟩
    rw [h, Int.zero_mul]
    omega
  · have hw0 : 0 < way := by omega
    have e : slowN time way top = (slowI time way top).toNat := by
      unfold slowN
      rw [if_neg h]
    have hd := Int.ediv_nonneg ht hw
    have hm0 : 0 ≤ slowI time way top ∧ slowI time way top ≤ top := by
      unfold slowI
      split <;> omega
    rw [e]
    refine ⟨by omega, fun s hs => ?_, fun _ => by omega, fun z => absurd z h⟩
    have hdiv : way * (s : Int) ≤ time ↔ (s : Int) ≤ time / way := by
      rw [Int.le_ediv_iff_mul_le hw0, Int.mul_comm]
    rw [hdiv]
    unfold slowI
    split <;> omega
/-- one number of slow ticks, as the law reckons -/
def lawPart (time way : Int) (ticks : Nat) (count top : Int) (s : Nat) : Option (Int × Int) :=
  if (ticks : Int) - s = 0 then (if count - time * s = 0 then some (0, (s : Int) * slowN time way top) else none)
  else if (slowN time way top : Int) < top ∧ (count - time * s) % way = 0 ∧ ((ticks : Int) - s) * (slowN time way top + 1) ≤ (count - time * s) / way ∧ (count - time * s) / way ≤ ((ticks : Int) - s) * top then some ((count - time * s) / way, (count - time * s) / way + (s : Int) * slowN time way top) else none
theorem law_parts {time way : Int} {ticks : Nat} {count top : Int} (ht : 0 ≤ time) (hw : 0 ≤ way) (h0 : 0 ≤ top) : (List.range (ticks + 1)).filterMap (lawPart time way ticks count top) = eStrL time way ticks count top := by
  obtain ⟨s1, s2, s3, s4⟩ := slowN_spec ht hw h0
  unfold eStrL
  by_cases h : way = 0
  · rw [if_pos h]
    have s4 := s4 h
    unfold bStrL
    rw [if_pos h, List.range_succ, List.filterMap_append]
    have e1 : (List.range ticks).filterMap (lawPart time way ticks count top) = [] := by
      rw [List.filterMap_eq_nil_iff]
      intro s hs
      have := List.mem_range.mp hs
      unfold lawPart
      rw [if_neg (by omega), if_neg (fun z => by omega)]
    have e2 : lawPart time way ticks count top ticks = if count - time * ticks = 0 then some (0, (ticks : Int) * top) else none := by
      unfold lawPart
      rw [if_pos (by omega), s4]
    rw [e1, List.nil_append]
    by_cases hc : count - time * ticks = 0
    · rw [if_pos hc]
      rw [if_pos hc] at e2
      simp [e2]
    · rw [if_neg hc]
      rw [if_neg hc] at e2
      simp [e2]
  · rw [if_neg h]
    have hw0 : 0 < way := by omega
    have s3 := s3 h
    unfold partsL
    rw [List.filterMap_filterMap]
    refine fm_congr fun s hs => ?_
    have hs := List.mem_range.mp hs
    show _ = (partOf time way ticks top s).bind (strOf time way count)
    have hps : (ticks : Int) - s = 0 ∨ (slowN time way top : Int) < top → partOf time way ticks top s = some ((s : Int), (slowN time way top : Int), ((ticks : Int) - s) * ((slowN time way top : Int) + 1), ((ticks : Int) - s) * top) := fun hc => by
      unfold partOf
      rw [s3, if_pos hc]
    have hpn : ¬ ((ticks : Int) - s = 0 ∨ (slowN time way top : Int) < top) → partOf time way ticks top s = none := fun hc => by
      unfold partOf
      rw [s3, if_neg hc]
    unfold lawPart
    by_cases hf : (ticks : Int) - s = 0
    · rw [if_pos hf, hps (.inl hf)]
      show _ = strOf time way count _
      unfold strOf
      simp only [hf, Int.zero_mul]
      by_cases hc : count - time * s = 0
      · rw [if_pos hc, hc, Int.zero_emod, Int.zero_ediv, if_pos ⟨rfl, Int.le_refl _, Int.le_refl _⟩, Int.zero_add]
      · rw [if_neg hc, if_neg]
        rintro ⟨q1, q2, q3⟩
        have q4 := Int.emod_add_mul_ediv (count - time * s) way
        have q5 : (count - time * s) / way = 0 := Int.le_antisymm q3 q2
        rw [q1, q5, Int.mul_zero] at q4
        omega
    · rw [if_neg hf]
      by_cases hlt : (slowN time way top : Int) < top
      · rw [hps (.inr hlt)]
        show _ = strOf time way count _
        unfold strOf
        by_cases hc : (count - time * s) % way = 0 ∧ ((ticks : Int) - s) * (slowN time way top + 1) ≤ (count - time * s) / way ∧ (count - time * s) / way ≤ ((ticks : Int) - s) * top
        · rw [if_pos (show (slowN time way top : Int) < top ∧ _ from ⟨hlt, hc⟩)]
          exact (if_pos hc).symm
        · rw [if_neg (show ¬ ((slowN time way top : Int) < top ∧ _) from fun z => hc z.2)]
          exact (if_neg hc).symm
      · rw [hpn fun z => z.elim hf hlt]
        exact if_neg fun z => hlt z.1
end

section
variable {P : Program} {w : World} {K : PySem.W.Frag} {mg : Str → Option Value} {base : Heap}
theorem eqv_nilI (ns : List Int) : PyData.eqv (.list (ns.map .int)) (.list []) = ns.isEmpty := by
  cases ns <;> rfl
theorem sd_nilI {H : Hp} {Q : VK} {neg : Bool} {p q : Addr} {ns : List Int} (h : H p = some (.lst (ns.map V.int))) (h2 : H q = some (.lst [])) (k : Q (.bl (xor neg ns.isEmpty)) H) : SD K neg (.ref p) (.ref q) H Q .mk :=
  sd_in (dp_ints h) (.lst (SqL.of h2) .nil) (ok_ints ns) (ok_list (fun d hd => by cases hd)) (by decide) _ (eqv_nilI ns) k
theorem fm_ints (n : Nat) (p : Nat → Bool) (l : List Nat) (h : (List.range n).filterMap (fun s => if p s = true then some s else none) = l) : (List.range n).filterMap (fun s => if p s = true then some (V.int (s : Int)) else none) = (l.map fun s : Nat => (s : Int)).map V.int := by
  rw [← h, List.map_map]
  induction (List.range n) with
  | nil => rfl
  | cons a r ih =>
    rw [List.filterMap_cons, List.filterMap_cons]
    by_cases q : p a = true
    · simp only [q, if_true]
      rw [ih]
      rfl
    · simp only [q]
      exact ih
theorem range_snoc' (n : Nat) (f : Nat → Int) : (List.range (n + 1)).map f = (List.range n).map f ++ [f n] := by
  rw [List.range_succ, List.map_append]
  rfl
theorem last_map (f : Nat → Int) (n : Nat) : atI (((List.range (n + 1)).map f).map V.int) (-1) = some (.int (f n)) := by
  rw [at_last, range_snoc', List.map_append, List.length_append, List.getElem?_append_right (by simp)]
  simp
abbrev s_law_either : Stmt := top 33
theorem sc_law_either : FnScope ["_law_rates_here", "_law_ticks", "_law_count", "_law_top", "_law_time", "_law_way", "_law_found", "_law_slow_speeds", "_law_fast_speeds", "_law_slow", "_law_fast", "_law_rest", "_law_steps", "_law_speed"] ["_law_rates_here", "_law_ticks", "_law_count", "_law_top"] (defScope s_law_either) := ⟨rfl, rfl, rfl, by decide +kernel, rfl, by decide +kernel, by decide +kernel⟩
def spL (f : Int → Int → Nat → Int → Int → List (Int × Int)) : Sp := fun vs H Q _ => ∃ (t : Addr) (time way count top : Int) (ticks : Nat), vs = [.ref t, .int (ticks : Int), .int count, .int top] ∧ H t = some (.tup [.int time, .int way]) ∧ 0 ≤ time ∧ time ≤ 60 ∧ 0 ≤ way ∧ way ≤ 6 ∧ ticks ≤ 400 ∧ 0 ≤ count ∧ 0 ≤ top ∧ top ≤ 9 ∧ ∀ p xs H', Same H H' → H p = none → H' p = some (.lst xs) → TupAt H' tI xs (f time way ticks count top) → Q (.ref p) H'
theorem ok_law_either (D : Df K mg "_law_either" s_law_either ["_law_rates_here", "_law_ticks", "_law_count", "_law_top"]) (F_law_united : Fn P w K mg base "_law_united" 1 ["_law_stretches"] sp_law_united) (T : Txt K mg) : Fn P w K mg base "_law_either" 2 ["_law_rates_here", "_law_ticks", "_law_count", "_law_top"] (spL fun a b c d e => uniL (eStrL a b c d e)) := by
  refine D.ok sc_law_either (fun vs H Q E h => ?_) (fun f cdv A outer s H vs Q E hr h => ?_)
  · obtain ⟨t, a, b, c, d, e, rfl, _⟩ := h
    rfl
  · obtain ⟨t, time, way, count, top, ticks, rfl, ht, h1, h2, h3, h4, h5, h6, h7, h8, k⟩ := h
    obtain ⟨s1, s2, s3, s4⟩ := slowN_spec (top := top) h1 h3 h7
    obtain ⟨n, rfl⟩ : ∃ n : Nat, top = n := ⟨top.toNat, by omega⟩
    refine ⟨_, (pss_cons (ps_asg (pv 0) (pg_tupF (n := 2) rfl (pgs_cons (pg_name (i := 4) sc_law_either.nd rfl (Or.inr rfl)) (pgs_cons (pg_name (i := 5) sc_law_either.nd rfl (Or.inr rfl)) pgs_nil))))
      (pss_cons (ps_set (i := 6) sc_law_either.nd rfl (Or.inl rfl) (pe_lst pa_nil))
      (pss_cons (ps_setLc (i := 7) (own := [("_law_speed", 13)]) (g := (gName 13)) rfl sc_law_either.nd rfl rfl (sw_true rfl rfl rfl (by decide +kernel)) (pi_range1 (by rfl) T.n_range (pa_cons (pe_op op_addF (pv 3) pe_int) pa_nil)) (blkOk_by (own := [("_law_speed", 13)]) (N := ["_law_rates_here", "_law_ticks", "_law_count", "_law_top", "_law_time", "_law_way", "_law_found", "_law_slow_speeds", "_law_fast_speeds", "_law_slow", "_law_fast", "_law_rest", "_law_steps", "_law_speed"]) (sc := defScope s_law_either) (by decide +kernel)) (fun _ _ _ _ _ => (pg_name (i := 13) sc_law_either.nd rfl (Or.inl rfl))) (fun _ _ _ _ _ => (pts_one (pt_cmpR op_leF (pe_op op_mulF (pv 5) (pv 13)) (pv 4) (nomark _)))) (fun _ _ _ _ _ => (pv 13)))
      (pss_cons (ps_setLc (i := 8) (own := [("_law_speed", 13)]) (g := (gName 13)) rfl sc_law_either.nd rfl rfl (sw_true rfl rfl rfl (by decide +kernel)) (pi_range1 (by rfl) T.n_range (pa_cons (pe_op op_addF (pv 3) pe_int) pa_nil)) (blkOk_by (own := [("_law_speed", 13)]) (N := ["_law_rates_here", "_law_ticks", "_law_count", "_law_top", "_law_time", "_law_way", "_law_found", "_law_slow_speeds", "_law_fast_speeds", "_law_slow", "_law_fast", "_law_rest", "_law_steps", "_law_speed"]) (sc := defScope s_law_either) (by decide +kernel)) (fun _ _ _ _ _ => (pg_name (i := 13) sc_law_either.nd rfl (Or.inl rfl))) (fun _ _ _ _ _ => (pts_one (pt_cmpR op_gtF (pe_op op_mulF (pv 5) (pv 13)) (pv 4) (nomark _)))) (fun _ _ _ _ _ => (pv 13)))
      (pss_cons (ps_for PassesOwn.never rfl (pi_range1 (by rfl) T.n_range (pa_cons (pe_op op_addF (pv 1) pe_int) pa_nil)) (pg_name (i := 9) sc_law_either.nd rfl (Or.inl rfl)) (pss_cons (ps_set (i := 10) sc_law_either.nd rfl (Or.inl rfl) (pe_op op_subF (pv 1) (pv 9)))
      (pss_cons (ps_set (i := 11) sc_law_either.nd rfl (Or.inl rfl) (pe_op op_subF (pv 2) (pe_op op_mulF (pv 4) (pv 9))))
      (pss_cons (ps_if (PW.pt (pw_and (pt_cmpR (op_eqX (K := K) hr.units) (pv 10) pe_int (nomark _)) (pw_and1 (pt_cmpR (op_eqX (K := K) hr.units) (pv 11) pe_int (nomark _))))) (pss_one (ps_expr (pe_lm PySem.F.slot_list_append PySem.F.type_list_append mt_appF (pv 6) (pa_cons (pe_tup (pa_cons pe_int (pa_cons (pe_op op_mulF (pv 9) (pe_ix ix_F (pv 7) (pe_un un_neg pe_int) (fun _ _ => rfl))) pa_nil))) pa_nil)))) pss_nil)
      (pss_one (ps_if (PW.pt (pw_and (pt_cmpR op_gtF (pv 10) pe_int (nomark _)) (pw_and (pt_cmpR (op_neX (K := K) hr.units) (pv 8) (pe_lst pa_nil) (nomark _)) (pw_and1 (pt_cmpR (op_eqX (K := K) hr.units) (pe_op op_modF (pe_callTy call_intF' (by rfl) T.n_int (by decide +kernel) (pa_cons (pv 11) pa_nil)) (pv 5)) pe_int (nomark _)))))) (pss_cons (ps_set (i := 12) sc_law_either.nd rfl (Or.inl rfl) (pe_op op_fdivF (pv 11) (pv 5)))
      (pss_one (ps_if (pt_chain op_leF op_leF (pe_op op_mulF (pv 10) (pe_ix ix_F (pv 8) pe_int (fun _ _ => rfl))) (pv 12) (pe_op op_mulF (pv 10) (pe_ix ix_F (pv 8) (pe_un un_neg pe_int) (fun _ _ => rfl)))) (pss_one (ps_expr (pe_lm PySem.F.slot_list_append PySem.F.type_list_append mt_appF (pv 6) (pa_cons (pe_tup (pa_cons (pv 12) (pa_cons (pe_op op_addF (pv 12) (pe_op op_mulF (pv 9) (pe_ix ix_F (pv 7) (pe_un un_neg pe_int) (fun _ _ => rfl)))) pa_nil))) pa_nil)))) pss_nil))) pss_nil))))))
      (pss_one (ps_ret (pe_fn F_law_united (hr.mono (by decide)) rfl (pa_cons (pv 6) pa_nil))))))))), ?_⟩
    walk_at "go"
    rw [ht]
    walk_at "go"
    refine new_in fun p H1 hp S1 g1 => ?_
    walk_at "go"
    rw [show ((n : Int) + 1).toNat = n + 1 by omega]
    intro D1 hD1
    refine lpc_gen (walkR 0 (n + 1)) rfl hD1 (by rw [List.length_range]; omega) (fun s => if decide (way * (s : Int) ≤ time) = true then some (.int (s : Int)) else none) (fun H' => Same H1 H') (Same.refl _) (fun H o h => sm_mut h hD1) (fun _ _ => trivial) ?_ ?_
    · rintro s H2 N M hs S2 ⟨acc, ha, hN, hM⟩
      rw [show (0 : Int) + (s : Int) = (s : Int) by omega]
      walk_at "go"
      refine ite2 (fun hc => ?_) (fun hc => ?_)
      · exact hN _ _ (by rw [decide_eq_true hc]; rfl) S2 ha
      · exact hM _ (by rw [decide_eq_false hc]; rfl) S2 ha
    · intro H2 S2 g2
      rw [fm_ints (n + 1) _ _ (filt_le n (slowN time way n) (by omega) _ fun s hs => by rw [decide_eq_true_eq]; exact s2 s (by omega))] at g2
      walk_at "go"
      rw [show ((n : Int) + 1).toNat = n + 1 by omega]
      intro D2 hD2
      refine lpc_gen (walkR 0 (n + 1)) rfl hD2 (by rw [List.length_range]; omega) (fun s => if decide (time < way * (s : Int)) = true then some (.int (s : Int)) else none) (fun H' => Same H2 H') (Same.refl _) (fun H o h => sm_mut h hD2) (fun _ _ => trivial) ?_ ?_
      · rintro s H3 N M hs S3 ⟨acc, ha, hN, hM⟩
        rw [show (0 : Int) + (s : Int) = (s : Int) by omega]
        walk_at "go"
        refine ite2 (fun hc => ?_) (fun hc => ?_)
        · exact hN _ _ (by rw [decide_eq_true hc]; rfl) S3 ha
        · exact hM _ (by rw [decide_eq_false hc]; rfl) S3 ha
      · intro H3 S3 g3
        rw [fm_ints (n + 1) _ _ (filt_gt n (slowN time way n) (by omega) _ fun s hs => by rw [decide_eq_true_eq]; have := s2 s (by omega); omega)] at g3
        walk_at "go"
        have hlp : ∀ i : Nat, lawPart time way ticks count n i = if (ticks : Int) - i = 0 then (if count - time * i = 0 then some (0, (i : Int) * slowN time way n) else none) else if (slowN time way n : Int) < n ∧ (count - time * i) % way = 0 ∧ ((ticks : Int) - i) * (slowN time way n + 1) ≤ (count - time * i) / way ∧ (count - time * i) / way ≤ ((ticks : Int) - i) * n then some ((count - time * i) / way, (count - time * i) / way + (i : Int) * slowN time way n) else none := fun _ => rfl
        have hparts := law_parts (ticks := ticks) (count := count) (top := n) h1 h3 h7
        generalize hmm : slowN time way n = m at *
        have hmn : m ≤ n := by omega
        have d1l := last_map (fun s : Nat => (s : Int)) m
        have d2l : m < n → atI (((List.range (n - m)).map (· + (m + 1))).map (fun s : Nat => (s : Int)) |>.map V.int) (-1) = some (.int (n : Int)) := fun hlt => by
          obtain ⟨j, hj⟩ : ∃ j, n - m = j + 1 := ⟨n - m - 1, by omega⟩
          rw [hj, show ((List.range (j + 1)).map (· + (m + 1))).map (fun s : Nat => (s : Int)) = (List.range (j + 1)).map (fun s : Nat => ((s + (m + 1) : Nat) : Int)) by rw [List.map_map]; rfl, last_map]
          rw [show j + (m + 1) = n by omega]
        have d2h : m < n → (((List.range (n - m)).map (· + (m + 1))).map (fun s : Nat => (s : Int)) |>.map V.int)[0]? = some (.int ((m + 1 : Nat) : Int)) := fun hlt => by
          obtain ⟨j, hj⟩ : ∃ j, n - m = j + 1 := ⟨n - m - 1, by omega⟩
          rw [hj, List.range_succ_eq_map]
          simp
        have d2e : (((List.range (n - m)).map (· + (m + 1))).map (fun s : Nat => (s : Int))).isEmpty = decide (m = n) := by
          by_cases hlt : m < n
          · obtain ⟨j, hj⟩ : ∃ j, n - m = j + 1 := ⟨n - m - 1, by omega⟩
            rw [hj, List.range_succ_eq_map, decide_eq_false (by omega)]
            rfl
          · rw [show n - m = 0 by omega, decide_eq_true (by omega)]
            rfl
        generalize hL1 : ((List.range (m + 1)).map fun s : Nat => (s : Int)) = L1 at *
        generalize hL2 : (((List.range (n - m)).map (· + (m + 1))).map fun s : Nat => (s : Int)) = L2 at *
        have npD1 : p ≠ D1 := ne_of_none g1 hD1
        have npD2 : p ≠ D2 := ne_of_none (S2 _ _ g1) hD2
        have S13 : Same H1 H3 := S2.trans S3
        rw [show ((ticks : Int) + 1).toNat = ticks + 1 by omega]
        refine lp_range (fun i σ H' => ∃ xs v9 v10 v11 v12, σ = [some (.ref t), some (.int (ticks : Int)), some (.int count), some (.int (n : Int)), some (.int time), some (.int way), some (.ref p), some (.ref D1), some (.ref D2), v9, v10, v11, v12, none] ∧ Same H H' ∧ H' p = some (.lst xs) ∧ H' D1 = some (.lst (L1.map V.int)) ∧ H' D2 = some (.lst (L2.map V.int)) ∧ TupAt H' tI xs ((List.range i).filterMap (lawPart time way ticks count n))) ⟨[], none, none, none, none, rfl, S1.trans S13, S13 _ _ g1, S3 _ _ g2, g3, trivial⟩ ?_ ?_
        · rintro i σ H' hi ⟨xs, v9, v10, v11, v12, rfl, S4, q1, q2, q3, t4⟩
          have hxl := t4.len
          have hfl := fm_len (lawPart time way ticks count n) i
          have e0 : (0 : Int) + (i : Int) = (i : Int) := by omega
          have app : ∀ r v12' H5 c, lawPart time way ticks count n i = some r → Same H' H5 → H5 c = some (.tup (tI r)) → ∃ xs' v9 v10 v11 v12, [some (V.ref t), some (.int (ticks : Int)), some (.int count), some (.int (n : Int)), some (.int time), some (.int way), some (.ref p), some (.ref D1), some (.ref D2), some (.int (i : Int)), some (.int ((ticks : Int) - i)), some (.int (count - time * i)), v12', none] = [some (.ref t), some (.int (ticks : Int)), some (.int count), some (.int (n : Int)), some (.int time), some (.int way), some (.ref p), some (.ref D1), some (.ref D2), v9, v10, v11, v12, none] ∧ Same H (upd H5 p (.lst (xs ++ [.ref c]))) ∧ upd H5 p (.lst (xs ++ [.ref c])) p = some (.lst xs') ∧ upd H5 p (.lst (xs ++ [.ref c])) D1 = some (.lst (L1.map V.int)) ∧ upd H5 p (.lst (xs ++ [.ref c])) D2 = some (.lst (L2.map V.int)) ∧ TupAt (upd H5 p (.lst (xs ++ [.ref c]))) tI xs' ((List.range (i + 1)).filterMap (lawPart time way ticks count n)) := by
            intro r v12' H5 c hr1 S5 g5
            refine ⟨xs ++ [.ref c], _, _, _, _, rfl, sm_mut (S4.trans S5) hp, upd_same, by rw [upd_ne npD1.symm]; exact S5 _ _ q2, by rw [upd_ne npD2.symm]; exact S5 _ _ q3, ?_⟩
            rw [fm_next, hr1]
            exact (TupAt.snoc g5 (t4.mono (same_tup S5))).mono fun b zs hb => by
              rw [upd_ne (ne_of hb (S5 _ _ q1) (by intro z; cases z))]
              exact hb
          have skip : ∀ v12' H5, lawPart time way ticks count n i = none → Same H' H5 → ∃ xs' v9 v10 v11 v12, [some (V.ref t), some (.int (ticks : Int)), some (.int count), some (.int (n : Int)), some (.int time), some (.int way), some (.ref p), some (.ref D1), some (.ref D2), some (.int (i : Int)), some (.int ((ticks : Int) - i)), some (.int (count - time * i)), v12', none] = [some (.ref t), some (.int (ticks : Int)), some (.int count), some (.int (n : Int)), some (.int time), some (.int way), some (.ref p), some (.ref D1), some (.ref D2), v9, v10, v11, v12, none] ∧ Same H H5 ∧ H5 p = some (.lst xs') ∧ H5 D1 = some (.lst (L1.map V.int)) ∧ H5 D2 = some (.lst (L2.map V.int)) ∧ TupAt H5 tI xs' ((List.range (i + 1)).filterMap (lawPart time way ticks count n)) := by
            intro v12' H5 hr1 S5
            refine ⟨xs, _, _, _, _, rfl, S4.trans S5, S5 _ _ q1, S5 _ _ q2, S5 _ _ q3, ?_⟩
            rw [fm_next, hr1]
            simp only [Option.toList_none, List.append_nil]
            exact t4.mono (same_tup S5)
          rw [e0]
          by_cases hf : (ticks : Int) - i = 0
          · by_cases hc : count - time * i = 0
            · have hl : lawPart time way ticks count n i = some (0, (i : Int) * m) := by rw [hlp, if_pos hf, if_pos hc]
              walk_at "go"
              rw [q1]
              walk_at "go"
              rw [q2]
              walk_at "go"
              rw [d1l]
              walk_at "go"
              refine new_in fun c H5 hcn S5 g5 => ?_
              rw [S5 _ _ q1]
              walk_at "go"
              exact app _ _ H5 c hl S5 g5
            · have hl : lawPart time way ticks count n i = none := by rw [hlp, if_pos hf, if_neg hc]
              walk_at "go"
              exact skip _ H' hl (Same.refl _)
          · have hfp : 0 < (ticks : Int) - i := by omega
            walk_at "go"
            refine new_in fun e H5 he S5 g5 => ?_
            walk_at "go"
            refine sd_nilI (S5 _ _ q3) g5 ?_
            rw [d2e]
            by_cases hlt : m < n
            · have hwp : 0 < way := by
                apply Decidable.byContradiction
                intro z
                have := s4 (by omega)
                omega
              rw [decide_eq_false (show ¬ m = n by omega)]
              walk_at "go"
              refine ite2 (fun c1 => ?_) (fun c1 => ?_)
              · walk_at "go"
                rw [S5 _ _ q3]
                walk_at "go"
                rw [d2h hlt]
                walk_at "go"
                refine ite2 (fun c2 => ?_) (fun c2 => ?_)
                · rw [S5 _ _ q3]
                  walk_at "go"
                  rw [d2l hlt]
                  walk_at "go"
                  refine ite2 (fun c3 => ?_) (fun c3 => ?_)
                  · have hl : lawPart time way ticks count n i = some ((count - time * i) / way, (count - time * i) / way + (i : Int) * m) := by rw [hlp, if_neg hf, if_pos ⟨by omega, c1, c2, c3⟩]
                    rw [S5 _ _ q1]
                    walk_at "go"
                    rw [S5 _ _ q2]
                    walk_at "go"
                    rw [d1l]
                    walk_at "go"
                    refine new_in fun c H6 hcn S6 g6 => ?_
                    rw [S6 _ _ (S5 _ _ q1)]
                    walk_at "go"
                    exact app _ _ H6 c hl (S5.trans S6) g6
                  · exact skip _ H5 (by rw [hlp, if_neg hf, if_neg fun z => c3 z.2.2.2]) S5
                · exact skip _ H5 (by rw [hlp, if_neg hf, if_neg fun z => c2 z.2.2.1]) S5
              · exact skip _ H5 (by rw [hlp, if_neg hf, if_neg fun z => c1 z.2.1]) S5
            · rw [decide_eq_true (show m = n by omega)]
              walk_at "go"
              exact skip _ H5 (by rw [hlp, if_neg hf, if_neg fun z => by omega]) S5
        · rintro σ H' ⟨xs, v9, v10, v11, v12, rfl, S4, q1, q2, q3, t4⟩
          rw [hparts] at t4
          have hlen := e_len time way ticks count n
          walk_at "go"
          refine ⟨p, xs, _, rfl, q1, t4, by omega, fun q ys H2 S2 hq g2 t2 => ?_⟩
          exact k q ys H2 (S4.trans S2) (S4.free hq) g2 t2
theorem uni_nil : uniL [] = [] := by
  have e : srt [] = [] := (srt_uniq (List.Perm.refl _) List.Pairwise.nil).symm
  unfold uniL
  rw [e]
  rfl
theorem uni_one (r : Int × Int) : uniL [r] = [r] := by
  have e : srt [r] = [r] := (srt_uniq (List.Perm.refl _) (List.pairwise_singleton _ _)).symm
  unfold uniL
  rw [e]
  rfl
theorem uni_b (time way : Int) (ticks : Nat) (count top : Int) : uniL (bStrL time way ticks count top) = bStrL time way ticks count top := by
  unfold bStrL
  split <;> split <;> first | exact uni_one _ | exact uni_nil
abbrev s_law_both : Stmt := top 34
theorem sc_law_both : FnScope ["_law_rates_here", "_law_ticks", "_law_count", "_law_top", "_law_time", "_law_way", "_law_rest"] ["_law_rates_here", "_law_ticks", "_law_count", "_law_top"] (defScope s_law_both) := ⟨rfl, rfl, rfl, by decide +kernel, rfl, by decide +kernel, by decide +kernel⟩
theorem ok_law_both (D : Df K mg "_law_both" s_law_both ["_law_rates_here", "_law_ticks", "_law_count", "_law_top"]) (T : Txt K mg) : Fn P w K mg base "_law_both" 1 ["_law_rates_here", "_law_ticks", "_law_count", "_law_top"] (spL fun a b c d e => uniL (bStrL a b c d e)) := by
  refine D.ok sc_law_both (fun vs H Q E h => ?_) (fun f cdv A outer s H vs Q E hr h => ?_)
  · obtain ⟨t, a, b, c, d, e, rfl, _⟩ := h
    rfl
  · obtain ⟨t, time, way, count, top, ticks, rfl, ht, h1, h2, h3, h4, h5, h6, h7, h8, k⟩ := h
    refine ⟨_, (pss_cons (ps_asg (pv 0) (pg_tupF (n := 2) rfl (pgs_cons (pg_name (i := 4) sc_law_both.nd rfl (Or.inl rfl)) (pgs_cons (pg_name (i := 5) sc_law_both.nd rfl (Or.inl rfl)) pgs_nil))))
      (pss_cons (ps_set (i := 6) sc_law_both.nd rfl (Or.inl rfl) (pe_op op_subF (pv 2) (pe_op op_mulF (pv 4) (pv 1))))
      (pss_cons (ps_if (pt_cmpR (op_eqX (K := K) hr.units) (pv 5) pe_int (nomark _)) (pss_one (ps_ret (pe_slice sl_F (pe_lst (pa_cons (pe_tup (pa_cons pe_int (pa_cons (pe_op op_mulF (pv 1) (pv 3)) pa_nil))) pa_nil)) po_none (po_some (pe_callTy call_intF' (by rfl) T.n_int (by decide +kernel) (pa_cons (pe_cmpR (op_eqX (K := K) hr.units) (pv 6) pe_int (nomark _)) pa_nil)))))) pss_nil)
      (pss_cons (ps_if (PW.pt (pw_or (pt_cmpR op_ltF (pv 6) pe_int (nomark _)) (pw_or (pt_cmpR (op_neX (K := K) hr.units) (pe_op op_modF (pe_callTy call_intF' (by rfl) T.n_int (by decide +kernel) (pa_cons (pv 6) pa_nil)) (pv 5)) pe_int (nomark _)) (pw_or1 (pt_cmpR op_gtF (pe_op op_fdivF (pv 6) (pv 5)) (pe_op op_mulF (pv 1) (pv 3)) (nomark _)))))) (pss_one (ps_ret (pe_lst pa_nil))) pss_nil)
      (pss_one (ps_ret (pe_lst (pa_cons (pe_tup (pa_cons (pe_op op_fdivF (pv 6) (pv 5)) (pa_cons (pe_op op_fdivF (pv 6) (pv 5)) pa_nil))) pa_nil)))))))), ?_⟩
    have k : ∀ p xs H', Same H H' → H p = none → H' p = some (.lst xs) → TupAt H' tI xs (bStrL time way ticks count top) → Q (.ref p) H' := fun p xs H' a b c d => k p xs H' a b c (by show TupAt H' tI xs (uniL _); rw [uni_b]; exact d)
    have kn : bStrL time way ticks count top = [] → ∀ p H', Same H H' → H p = none → H' p = some (.lst []) → Q (.ref p) H' := fun e p H' S hp g => k p [] H' S hp g (by rw [e]; trivial)
    have ks : ∀ r, bStrL time way ticks count top = [r] → ∀ p c H', Same H H' → H p = none → H' p = some (.lst [.ref c]) → H' c = some (.tup (tI r)) → Q (.ref p) H' := fun r e p c H' S hp g gc => k p [.ref c] H' S hp g (by rw [e]; exact ⟨⟨c, rfl, gc⟩, trivial⟩)
    walk_at "go"
    rw [ht]
    walk_at "go"
    refine ite2 (fun hw => ?_) (fun hw => ?_)
    · walk_at "go"
      refine new_in fun c H1 hcn S1 g1 => ?_
      walk_at "go"
      refine new_in fun p H2 hp S2 g2 => ?_
      walk_at "go"
      rw [g2]
      walk_at "go"
      refine new_in fun q H3 hq S3 g3 => ?_
      by_cases hc : count - time * ticks = 0
      · rw [if_pos hc] at g3
        exact ks (0, ticks * top) (by unfold bStrL; rw [if_pos hw, if_pos hc]) q c H3 (S1.trans (S2.trans S3)) ((S1.trans S2).free hq) g3 (S3 _ _ (S2 _ _ g1))
      · rw [if_neg hc] at g3
        exact kn (by unfold bStrL; rw [if_pos hw, if_neg hc]) q H3 (S1.trans (S2.trans S3)) ((S1.trans S2).free hq) g3
    · have hw0 : 0 < way := by omega
      have hb : bStrL time way ticks count top = if (count - time * ticks) % way = 0 ∧ 0 ≤ (count - time * ticks) / way ∧ (count - time * ticks) / way ≤ ticks * top then [((count - time * ticks) / way, (count - time * ticks) / way)] else [] := by
        unfold bStrL
        rw [if_neg hw]
      have h0q : 0 ≤ (count - time * ticks) / way ↔ 0 ≤ count - time * ticks := Int.ediv_nonneg_iff_of_pos hw0
      generalize (count - time * ticks) / way = q at *
      generalize hm : (count - time * ticks) % way = m at *
      generalize count - time * ticks = rest at *
      have nil : ¬ (m = 0 ∧ 0 ≤ q ∧ q ≤ ticks * top) → New H (.lst []) Q .mk := fun h => new_in fun p H2 hp S2 g2 => kn (by rw [hb, if_neg h]) p H2 S2 hp g2
      refine ite2 (fun c1 => ?_) (fun c1 => ?_)
      · walk_at "go"
        exact nil fun z => by omega
      · walk_at "go"
        refine ite2 (fun c2 => ?_) (fun c2 => ?_)
        · walk_at "go"
          exact nil fun z => c2 z.1
        · walk_at "go"
          refine ite2 (fun c3 => ?_) (fun c3 => ?_)
          · walk_at "go"
            exact nil fun z => by omega
          · walk_at "go"
            refine new_in fun c H1 hcn S1 g1 => ?_
            walk_at "go"
            refine new_in fun p H2 hp S2 g2 => ?_
            exact ks (q, q) (by rw [hb, if_pos ⟨by omega, by omega, by omega⟩]) p c H2 (S1.trans S2) (S1.free hp) g2 (S2 _ _ g1)
def tN (r : Nat × Nat) : List V := [.int (r.1 : Int), .int (r.2 : Int)]
abbrev s_law_drawn : Stmt := top 35
theorem sc_law_drawn : FnScope ["_law_bag_here", "_law_ticks", "_law_top", "_law_left", "_law_found", "_law_speed", "_law_many"] ["_law_bag_here", "_law_ticks", "_law_top"] (defScope s_law_drawn) := ⟨rfl, rfl, rfl, by decide +kernel, rfl, by decide +kernel, by decide +kernel⟩
def sp_law_drawn : Sp := fun vs H Q _ => ∃ (b sp : Addr) (ticks : Nat) (top : Int), vs = [.ref b, .int (ticks : Int), .int top] ∧ Bag H b sp ∧ ticks ≤ 400 ∧ 0 ≤ top ∧ top ≤ 9 ∧ ∀ p xs rs H', H p = none → H' p = some (.lst xs) → TupAt H' tN xs rs → rs.length ≤ 10 → (∀ r ∈ rs, r.2 ≤ 400) → Drawn ticks top rs → Bag H' b sp → Kp b H H' → (∀ a ys, H' a = some (.tup ys) → a ≠ b) → Q (.ref p) H'
theorem ok_law_drawn (D : Df K mg "_law_drawn" s_law_drawn ["_law_bag_here", "_law_ticks", "_law_top"]) (F_law_draw : Fn P w K mg base "_law_draw" 1 ["_law_bag_here", "_law_size"] sp_law_draw) (T : Txt K mg) : Fn P w K mg base "_law_drawn" 2 ["_law_bag_here", "_law_ticks", "_law_top"] sp_law_drawn := by
  refine D.ok sc_law_drawn (fun vs H Q E h => ?_) (fun f cdv A outer s H vs Q E hr h => ?_)
  · obtain ⟨b, sp, ticks, top, rfl, _⟩ := h
    rfl
  · obtain ⟨b, sp, ticks, top, rfl, B, h1, h2, h3, k⟩ := h
    refine ⟨_, (pss_cons (ps_set (i := 3) sc_law_drawn.nd rfl (Or.inl rfl) (pv 1))
      (pss_cons (ps_set (i := 4) sc_law_drawn.nd rfl (Or.inl rfl) (pe_lst pa_nil))
      (pss_cons (ps_for PassesOwn.never rfl (pi_range1 (by rfl) T.n_range (pa_cons (pe_op op_addF (pv 2) pe_int) pa_nil)) (pg_name (i := 5) sc_law_drawn.nd rfl (Or.inl rfl)) (pss_cons (ps_set (i := 6) sc_law_drawn.nd rfl (Or.inl rfl) (pe_fn F_law_draw (hr.mono (by decide)) rfl (pa_cons (pv 0) (pa_cons (pe_op op_addF (pv 3) pe_int) pa_nil))))
      (pss_cons (ps_if (pt_cmpR (op_eqX (K := K) hr.units) (pv 5) (pv 2) (nomark _)) (pss_one (ps_set (i := 6) sc_law_drawn.nd rfl (Or.inl rfl) (pv 3))) pss_nil)
      (pss_cons (ps_expr (pe_lm PySem.F.slot_list_append PySem.F.type_list_append mt_appF (pv 4) (pa_cons (pe_tup (pa_cons (pv 5) (pa_cons (pv 6) pa_nil))) pa_nil)))
      (pss_one (ps_set (i := 3) sc_law_drawn.nd rfl (Or.inl rfl) (pe_op op_subF (pv 3) (pv 6))))))))
      (pss_one (ps_ret (pv 4)))))), ?_⟩
    walk_at "go"
    refine new_in fun p H1 hp S1 g1 => ?_
    have np := B.ne hp
    walk_at "go"
    obtain ⟨n, rfl⟩ : ∃ n : Nat, top = n := ⟨top.toNat, by omega⟩
    rw [show ((n : Int) + 1).toNat = n + 1 by omega]
    refine lp_range (fun i σ H' => ∃ (xs : List V) (rs : List (Nat × Nat)) (left : Nat) (v5 v6 : Option V), σ = [some (.ref b), some (.int (ticks : Int)), some (.int (n : Int)), some (.int (left : Int)), some (.ref p), v5, v6] ∧ Bag H' b sp ∧ H' p = some (.lst xs) ∧ TupAt H' tN xs rs ∧ rs.length = i ∧ (∀ r ∈ rs, r.2 ≤ 400 ∧ (r.1 : Int) ≤ n) ∧ sumBy (fun _ => 1) rs + left = ticks ∧ (i = n + 1 → left = 0) ∧ Kp b H H') ⟨[], [], ticks, none, none, rfl, B.same S1, g1, trivial, rfl, (fun r hr => by cases hr), by show (0 : Int) + ticks = ticks; omega, fun z => by omega, Kp.of_same S1⟩ ?_ ?_
    · rintro i σ H' hi ⟨xs, rs, left, v5, v6, rfl, B2, g2, t2, hl2, hb2, hs2, he2, K2⟩
      have hxl := t2.len
      have hleft : left ≤ 400 := by
        have z0 : sumBy (fun _ => 0) rs ≤ sumBy (fun _ => 1) rs := sumBy_le fun _ _ => by omega
        rw [sumBy_zero] at z0
        omega
      have e0 : (0 : Int) + (i : Int) = (i : Int) := by omega
      rw [e0]
      walk_at "go"
      refine ⟨b, sp, _, rfl, B2, by omega, by omega, fun r H3 h30 h31 B3 e3 => ?_⟩
      obtain ⟨m, rfl⟩ : ∃ m : Nat, r = m := ⟨r.toNat, by omega⟩
      have g3 : H3 p = some (.lst xs) := by
        rw [e3 p np.1]
        exact g2
      have kt : ∀ a ys, H' a = some (.tup ys) → H3 a = some (.tup ys) := fun a ys ha => by
        obtain ⟨_, ns, i1, i2, i3, i4, hB, _⟩ := B2
        rw [e3 a (ne_of ha hB (by intro z; cases z))]
        exact ha
      have K3 : Kp b H H3 := fun q o hq e => by
        rw [e3 q hq]
        exact K2 q o hq e
      have app : ∀ (mm : Nat), mm ≤ left → (i = n → mm = left) → ∀ H4 c, Same H3 H4 → H4 c = some (.tup (tN (i, mm))) → ∃ (xs' : List V) (rs' : List (Nat × Nat)) (left' : Nat) (v5 v6 : Option V), [some (V.ref b), some (.int (ticks : Int)), some (.int (n : Int)), some (.int ((left : Int) - mm)), some (.ref p), some (.int (i : Int)), some (.int (mm : Int))] = [some (.ref b), some (.int (ticks : Int)), some (.int (n : Int)), some (.int (left' : Int)), some (.ref p), v5, v6] ∧ Bag (upd H4 p (.lst (xs ++ [.ref c]))) b sp ∧ upd H4 p (.lst (xs ++ [.ref c])) p = some (.lst xs') ∧ TupAt (upd H4 p (.lst (xs ++ [.ref c]))) tN xs' rs' ∧ rs'.length = i + 1 ∧ (∀ r ∈ rs', r.2 ≤ 400 ∧ (r.1 : Int) ≤ n) ∧ sumBy (fun _ => 1) rs' + left' = ticks ∧ (i + 1 = n + 1 → left' = 0) ∧ Kp b H (upd H4 p (.lst (xs ++ [.ref c]))) := by
        intro mm hm1 hm2 H4 c S4 g4
        refine ⟨xs ++ [.ref c], rs ++ [(i, mm)], left - mm, _, _, by rw [show (left : Int) - mm = ((left - mm : Nat) : Int) by omega], (B3.same S4).mut np.1 np.2, upd_same, ?_, by rw [List.length_append, hl2]; rfl, fun r hr => ?_, ?_, fun z => by have := hm2 (by omega); omega, ?_⟩
        · exact (TupAt.snoc (r := (i, mm)) g4 ((t2.mono kt).mono (same_tup S4))).mono fun q ys hq => by
            rw [upd_ne (ne_of hq (S4 _ _ g3) (by intro z; cases z))]
            exact hq
        · rcases List.mem_append.mp hr with hr | hr
          · exact hb2 r hr
          · rw [List.mem_singleton.mp hr]
            exact ⟨by show mm ≤ 400; omega, by show (i : Int) ≤ n; omega⟩
        · have es : sumBy (fun _ => 1) (rs ++ [(i, mm)]) = sumBy (fun _ => 1) rs + mm := by
            unfold sumBy
            rw [List.map_append, List.sum_append]
            simp
          rw [es]
          omega
        · exact Kp.mut (K3.trans (Kp.of_same S4)) hp
      walk_at "go"
      refine ite2 (fun hc => ?_) (fun hc => ?_)
      · rw [g3]
        walk_at "go"
        refine new_in fun c H4 hcn S4 g4 => ?_
        rw [S4 _ _ g3]
        walk_at "go"
        exact app left (Nat.le_refl _) (fun _ => rfl) H4 c S4 g4
      · rw [g3]
        walk_at "go"
        refine new_in fun c H4 hcn S4 g4 => ?_
        rw [S4 _ _ g3]
        walk_at "go"
        exact app m (by omega) (fun z => by omega) H4 c S4 g4
    · rintro σ H' ⟨xs, rs, left, v5, v6, rfl, B2, g2, t2, hl2, hb2, hs2, he2, K2⟩
      walk_at "go"
      have h0 := he2 rfl
      refine k p xs rs H' hp g2 t2 (by omega) (fun r hr => (hb2 r hr).1) ⟨fun r hr => (hb2 r hr).2, by omega⟩ B2 K2 fun a ys ha => ?_
      obtain ⟨_, ns, i1, i2, i3, i4, hB, _⟩ := B2
      exact ne_of ha hB (by intro z; cases z)
end

section
variable {P : Program} {w : World} {K : PySem.W.Frag} {mg : Str → Option Value} {base : Heap}
abbrev s_law_total : Stmt := top 36
theorem sc_law_total : FnScope ["_law_worths", "_law_drawn_here", "_law_speed", "_law_many"] ["_law_worths", "_law_drawn_here"] (defScope s_law_total) := ⟨rfl, rfl, rfl, by decide +kernel, rfl, by decide +kernel, by decide +kernel⟩
def sp_law_total : Sp := fun vs H Q _ => ∃ (ws d : Addr) (ns : List Int) (xs : List V) (rs : List (Nat × Nat)) (g : Nat → Int), vs = [.ref ws, .ref d] ∧ H ws = some (.lst (ns.map V.int)) ∧ H d = some (.lst xs) ∧ TupAt H tN xs rs ∧ rs.length ≤ 10 ∧ (∀ r ∈ rs, r.2 ≤ 400) ∧ (∀ r ∈ rs, ns[r.1]? = some (g r.1)) ∧ ∀ H', Same H H' → Q (.int (sumBy g rs)) H'
theorem ok_law_total (D : Df K mg "_law_total" s_law_total ["_law_worths", "_law_drawn_here"]) (T : Txt K mg) : Fn P w K mg base "_law_total" 1 ["_law_worths", "_law_drawn_here"] sp_law_total := by
  refine D.ok sc_law_total (fun vs H Q E h => ?_) (fun f cdv A outer s H vs Q E hr h => ?_)
  · obtain ⟨a, b, c, d, e, g, rfl, _⟩ := h
    rfl
  · obtain ⟨ws, d, ns, xs, rs, g, rfl, hw, hd, t, hlen, hm4, hg, k⟩ := h
    have hxl := t.len
    refine ⟨_, (pss_one (ps_ret (pe_callB (call_sumF rfl) (by rfl) T.n_sum (by decide +kernel) (pa_cons (pe_lc (own := [("_law_speed", 2), ("_law_many", 3)]) (g := (gTupF 2 (gCons (gName 2) (gCons (gName 3) gNil)))) rfl sc_law_total.nd (pi_list (pv 1)) (blkOk_by (own := [("_law_speed", 2), ("_law_many", 3)]) (N := ["_law_worths", "_law_drawn_here", "_law_speed", "_law_many"]) (sc := defScope s_law_total) (by decide +kernel)) (fun _ _ _ _ _ => (pg_tupF (n := 2) rfl (pgs_cons (pg_name (i := 2) sc_law_total.nd rfl (Or.inl rfl)) (pgs_cons (pg_name (i := 3) sc_law_total.nd rfl (Or.inl rfl)) pgs_nil)))) (fun _ _ _ _ _ => pts_nil) (fun _ _ _ _ _ => (pe_op op_mulF (pe_ix ix_F (pv 0) (pv 2) (fun _ _ => rfl)) (pv 3)))) pa_nil)))), ?_⟩
    walk_at "go"
    refine ⟨⟨_, SqL.of hd⟩, fun D hD => ?_⟩
    refine lpc_gen (walkQ t) rfl hD (by rw [List.length_zip]; omega) (fun b => some (.int (g b.1.1 * (b.1.2 : Int)))) (fun H' => Same H H') (Same.refl _) (fun H o h => sm_mut h hD) (fun H' S => S _ _ hd) ?_ ?_
    · rintro ⟨r, x⟩ H2 N M hb S2 ⟨acc, ha, hN, hM⟩
      obtain ⟨hr1, a, hxa, hq⟩ := t.mem hb
      have hxa : x = .ref a := hxa
      subst hxa
      have hq : H a = some (.tup (tN r)) := hq
      have hgr := hg r hr1
      have hm := hm4 r hr1
      obtain ⟨s, m⟩ := r
      have hm : m ≤ 400 := hm
      walk_at "go"
      rw [S2 _ _ hq]
      unfold tN
      walk_at "go"
      rw [S2 _ _ hw]
      walk_at "go"
      rw [show (ns.map V.int)[s]? = some (.int (g s)) by rw [List.getElem?_map, hgr]; rfl]
      walk_at "go"
      exact hN _ _ rfl S2 ha
    · intro H3 S3 h3
      rw [zip_fm (fun r : Nat × Nat => V.int (g r.1 * (r.2 : Int))) _ _ hxl.symm, show rs.map (fun r : Nat × Nat => V.int (g r.1 * (r.2 : Int))) = (rs.map fun r => g r.1 * (r.2 : Int)).map V.int by rw [List.map_map]; rfl] at h3
      walk_at "go"
      rw [h3]
      walk_at "go"
      exact k H3 S3
theorem pick2 {r x : Int} (h0 : 0 ≤ r) (h1 : r < 2) (hx0 : 0 ≤ x) (hx : x < 10) : ∃ n : Int, [V.int 9, V.int x][r.toNat]? = some (.int n) ∧ 0 ≤ n ∧ n ≤ 9 := by
  have h : r = 0 ∨ r = 1 := by omega
  rcases h with rfl | rfl
  · exact ⟨_, rfl, by decide, by decide⟩
  · exact ⟨_, rfl, by omega, by omega⟩
theorem pick3 {r x y : Int} (h0 : 0 ≤ r) (h1 : r < 3) (hx0 : 0 ≤ x) (hx : x < 401) (hy0 : 0 ≤ y) (hy : y < 30) : ∃ n : Nat, [V.int x, V.int y, V.int 400][r.toNat]? = some (.int (n : Int)) ∧ n ≤ 400 := by
  have h : r = 0 ∨ r = 1 ∨ r = 2 := by omega
  rcases h with rfl | rfl | rfl
  · exact ⟨x.toNat, by show some (V.int x) = _; rw [show ((x.toNat : Nat) : Int) = x by omega], by omega⟩
  · exact ⟨y.toNat, by show some (V.int y) = _; rw [show ((y.toNat : Nat) : Int) = y by omega], by omega⟩
  · exact ⟨400, rfl, by decide⟩
def Kn (b sp t d : Addr) (time way : Int) (xs : List V) (rs : List (Nat × Nat)) (H' : Hp) : Prop := Bag H' b sp ∧ H' t = some (.tup [.int time, .int way]) ∧ H' d = some (.lst xs) ∧ TupAt H' tN xs rs ∧ d ≠ b
theorem Kn.same {b sp t d : Addr} {time way : Int} {xs : List V} {rs : List (Nat × Nat)} {H H' : Hp} (k : Kn b sp t d time way xs rs H) (S : Same H H') : Kn b sp t d time way xs rs H' :=
  ⟨k.1.same S, S _ _ k.2.1, S _ _ k.2.2.1, k.2.2.2.1.mono (same_tup S), k.2.2.2.2⟩
theorem Bag.tne {H : Hp} {b sp a : Addr} {ys : List V} (B : Bag H b sp) (h : H a = some (.tup ys)) : a ≠ b := by
  obtain ⟨h0, ns, i, big, mix, cnt, a1, a2, a3⟩ := B
  exact ne_of h a1 (by intro z; cases z)
theorem Kn.kp {b sp t d : Addr} {time way : Int} {xs : List V} {rs : List (Nat × Nat)} {H H' : Hp} (k : Kn b sp t d time way xs rs H) (S : Kp b H H') (B : Bag H' b sp) : Kn b sp t d time way xs rs H' :=
  ⟨B, S _ _ (k.1.tne k.2.1) k.2.1, S _ _ k.2.2.2.2 k.2.2.1, k.2.2.2.1.mono (fun a ys h => S _ _ (k.1.tne h) h), k.2.2.2.2⟩
abbrev s_law : Stmt := top 37
theorem sc_law : FnScope ["_law_script", "_law_bag_here", "_law_turn", "_law_rates_here", "_law_top", "_law_ticks", "_law_drawn_here", "_law_way", "_law_side", "_law_count", "_law_deed", "_law_near", "_law_due", "_law_speed", "_law_many"] ["_law_script"] (defScope s_law) := ⟨rfl, rfl, rfl, by decide +kernel, rfl, by decide +kernel, by decide +kernel⟩
theorem ok_law (D : Df K mg "law" s_law ["_law_script"]) (F_law_bag : Fn P w K mg base "_law_bag" 1 ["_law_script"] (sp_law_bag K)) (F_law_draw : Fn P w K mg base "_law_draw" 1 ["_law_bag_here", "_law_size"] sp_law_draw) (F_law_mixed : Fn P w K mg base "_law_mixed" 2 ["_law_bag_here", "_law_items"] sp_law_mixed) (F_law_spread : Fn P w K mg base "_law_spread" 1 ["_law_told"] sp_law_spread)
    (F_law_rates : Fn P w K mg base "_law_rates" 2 ["_law_bag_here"] sp_law_rates) (F_law_worths_by : Fn P w K mg base "_law_worths_by" 1 ["_law_is_either", "_law_time", "_law_way"] sp_law_worths_by) (F_law_either : Fn P w K mg base "_law_either" 2 ["_law_rates_here", "_law_ticks", "_law_count", "_law_top"] (spL fun a b c d e => uniL (eStrL a b c d e))) (F_law_both : Fn P w K mg base "_law_both" 1 ["_law_rates_here", "_law_ticks", "_law_count", "_law_top"] (spL fun a b c d e => uniL (bStrL a b c d e)))
    (F_law_drawn : Fn P w K mg base "_law_drawn" 2 ["_law_bag_here", "_law_ticks", "_law_top"] sp_law_drawn) (F_law_total : Fn P w K mg base "_law_total" 1 ["_law_worths", "_law_drawn_here"] sp_law_total) (F_both_ways : FnD P w K mg base "both_ways" 4 ["time", "way", "ticks", "count", "top"] [.int 9] (spU bStrL)) (F_either_ways : FnD P w K mg base "either_ways" 4 ["time", "way", "ticks", "count", "top"] [.int 9] (spU eStrL)) (T : Txt K mg) : Fn P w K mg base "law" 5 ["_law_script"] (sp_law K) := by
  refine D.ok sc_law (fun vs H Q E h => ?_) (fun f cdv A outer s H vs Q E hr h => ?_)
  · obtain ⟨a, ns, rfl, _⟩ := h
    rfl
  · obtain ⟨a, ns, rfl, hS, k⟩ := h
    obtain ⟨f1, m_both_ways, A1⟩ := F_both_ways.fn.at
    obtain ⟨f2, m_either_ways, A2⟩ := F_either_ways.fn.at
    obtain ⟨f3, m_law_both, A3⟩ := F_law_both.at
    obtain ⟨f4, m_law_either, A4⟩ := F_law_either.at
    refine ⟨_, (pss_cons (ps_set (i := 1) sc_law.nd rfl (Or.inl rfl) (pe_fn F_law_bag (hr.mono (by decide)) rfl (pa_cons (pv 0) pa_nil)))
      (pss_cons (ps_for PassesOwn.never rfl (pi_range1 (by rfl) T.n_range (pa_cons pe_int pa_nil)) (pg_name (i := 2) sc_law.nd rfl (Or.inl rfl)) (pss_cons (ps_set (i := 3) sc_law.nd rfl (Or.inl rfl) (pe_fn F_law_rates (hr.mono (by decide)) rfl (pa_cons (pv 1) pa_nil)))
      (pss_cons (ps_set (i := 4) sc_law.nd rfl (Or.inl rfl) (pe_ix ix_F (pe_lst (pa_cons pe_int (pa_cons (pe_fn F_law_draw (hr.mono (by decide)) rfl (pa_cons (pv 1) (pa_cons pe_int pa_nil))) pa_nil))) (pe_fn F_law_draw (hr.mono (by decide)) rfl (pa_cons (pv 1) (pa_cons pe_int pa_nil))) (fun _ _ => rfl)))
      (pss_cons (ps_set (i := 5) sc_law.nd rfl (Or.inl rfl) (pe_ix ix_F (pe_lst (pa_cons (pe_fn F_law_draw (hr.mono (by decide)) rfl (pa_cons (pv 1) (pa_cons pe_int pa_nil))) (pa_cons (pe_fn F_law_draw (hr.mono (by decide)) rfl (pa_cons (pv 1) (pa_cons pe_int pa_nil))) (pa_cons pe_int pa_nil)))) (pe_fn F_law_draw (hr.mono (by decide)) rfl (pa_cons (pv 1) (pa_cons pe_int pa_nil))) (fun _ _ => rfl)))
      (pss_cons (ps_set (i := 6) sc_law.nd rfl (Or.inl rfl) (pe_fn F_law_drawn (hr.mono (by decide)) rfl (pa_cons (pv 1) (pa_cons (pv 5) (pa_cons (pv 4) pa_nil)))))
      (pss_cons (ps_set (i := 7) sc_law.nd rfl (Or.inl rfl) (pe_callB (call_sumF rfl) (by rfl) T.n_sum (by decide +kernel) (pa_cons (pe_lc (own := [("_law_speed", 13), ("_law_many", 14)]) (g := (gTupF 2 (gCons (gName 13) (gCons (gName 14) gNil)))) rfl sc_law.nd (pi_list (pv 6)) (blkOk_by (own := [("_law_speed", 13), ("_law_many", 14)]) (N := ["_law_script", "_law_bag_here", "_law_turn", "_law_rates_here", "_law_top", "_law_ticks", "_law_drawn_here", "_law_way", "_law_side", "_law_count", "_law_deed", "_law_near", "_law_due", "_law_speed", "_law_many"]) (sc := defScope s_law) (by decide +kernel)) (fun _ _ _ _ _ => (pg_tupF (n := 2) rfl (pgs_cons (pg_name (i := 13) sc_law.nd rfl (Or.inl rfl)) (pgs_cons (pg_name (i := 14) sc_law.nd rfl (Or.inl rfl)) pgs_nil)))) (fun _ _ _ _ _ => pts_nil) (fun _ _ _ _ _ => (pe_op op_mulF (pv 13) (pv 14)))) pa_nil)))
      (pss_one (ps_for PassesOwn.never rfl (pi_list (pe_fn F_law_mixed (hr.mono (by decide)) rfl (pa_cons (pv 1) (pa_cons (pe_lst (pa_cons pe_bl (pa_cons pe_bl pa_nil))) pa_nil)))) (pg_name (i := 8) sc_law.nd rfl (Or.inl rfl)) (pss_cons (ps_set (i := 9) sc_law.nd rfl (Or.inl rfl) (pe_fn F_law_total (hr.mono (by decide)) rfl (pa_cons (pe_fn F_law_worths_by (hr.mono (by decide)) rfl (pa_cons (pv 8) (pa_cons (pe_ix ix_F (pv 3) pe_int (fun _ _ => rfl)) (pa_cons (pe_ix ix_F (pv 3) pe_int (fun _ _ => rfl)) pa_nil)))) (pa_cons (pv 6) pa_nil))))
      (pss_cons (ps_set (i := 10) sc_law.nd rfl (Or.inl rfl) (pe_ix ix_F (pe_lst (pa_cons (pe_glob (v := .ref _) rfl m_both_ways rfl) (pa_cons (pe_glob (v := .ref _) rfl m_either_ways rfl) pa_nil))) (pe_callTy call_intF' (by rfl) T.n_int (by decide +kernel) (pa_cons (pv 8) pa_nil)) (fun _ _ => rfl)))
      (pss_cons (ps_if (pt_cmpR op_notInX (pv 7) (pe_fn F_law_spread (hr.mono (by decide)) rfl (pa_cons (pe_callV hr (pv 10) (pa_cons (pe_ix ix_F (pv 3) pe_int (fun _ _ => rfl)) (pa_cons (pe_ix ix_F (pv 3) pe_int (fun _ _ => rfl)) (pa_cons (pv 5) (pa_cons (pv 9) (pa_cons (pv 4) pa_nil)))))) pa_nil)) (by rfl)) (pss_one (ps_ret pe_bl)) pss_nil)
      (pss_one (ps_for PassesOwn.never rfl (pi_list (pe_fn F_law_mixed (hr.mono (by decide)) rfl (pa_cons (pv 1) (pa_cons (pe_lst (pa_cons (pv 9) (pa_cons (pe_op op_addF (pv 9) pe_int) (pa_cons (pe_callB (call_maxF rfl) (by rfl) T.n_max (by decide +kernel) (pa_cons pe_int (pa_cons (pe_op op_subF (pe_op op_subF (pv 9) pe_int) (pe_fn F_law_draw (hr.mono (by decide)) rfl (pa_cons (pv 1) (pa_cons pe_int pa_nil)))) pa_nil))) (pa_cons (pv 9) pa_nil))))) pa_nil)))) (pg_name (i := 11) sc_law.nd rfl (Or.inl rfl)) (pss_cons (ps_set (i := 12) sc_law.nd rfl (Or.inl rfl) (pe_callV hr (pe_ix ix_F (pe_lst (pa_cons (pe_glob (v := .ref _) rfl m_law_both rfl) (pa_cons (pe_glob (v := .ref _) rfl m_law_either rfl) pa_nil))) (pe_callTy call_intF' (by rfl) T.n_int (by decide +kernel) (pa_cons (pv 8) pa_nil)) (fun _ _ => rfl)) (pa_cons (pv 3) (pa_cons (pv 5) (pa_cons (pv 11) (pa_cons (pv 4) pa_nil))))))
      (pss_one (ps_if (pt_cmpR (op_neX (K := K) hr.units) (pe_callV hr (pv 10) (pa_cons (pe_ix ix_F (pv 3) pe_int (fun _ _ => rfl)) (pa_cons (pe_ix ix_F (pv 3) pe_int (fun _ _ => rfl)) (pa_cons (pv 5) (pa_cons (pv 11) (pa_cons (pv 4) pa_nil)))))) (pv 12) (nomark _)) (pss_one (ps_ret pe_bl)) pss_nil))))))))))))))))
      (pss_one (ps_ret pe_bl)))), ?_⟩
    walk_at "go"
    refine ⟨a, ns, rfl, hS, fun b sp H1 S1 _ _ B1 => ?_⟩
    walk_at "go"
    refine lp_range (fun i σ H' => ∃ v2 v3 v4 v5 v6 v7 v8 v9 v10 v11 v12, σ = [some (.ref a), some (.ref b), v2, v3, v4, v5, v6, v7, v8, v9, v10, v11, v12, none, none] ∧ Bag H' b sp) ⟨none, none, none, none, none, none, none, none, none, none, none, rfl, B1⟩ ?_ ?_
    · rintro i0 σ H2 hi ⟨v2, v3, v4, v5, v6, v7, v8, v9, v10, v11, v12, rfl, B2⟩
      walk_at "go"
      refine ⟨b, sp, rfl, B2, fun t time way H3 ht h3 t0 t1 w0 w1 B3 K3 => ?_⟩
      have nt := B2.ne ht
      walk_at "go"
      refine ⟨b, sp, _, rfl, B3, by decide, by decide, fun r1 H4 r10 r11 B4 e4 => ?_⟩
      walk_at "go"
      refine new_in fun p1 H5 hp1 S5 h5 => ?_
      have np1 := B4.ne hp1
      walk_at "go"
      refine ⟨b, sp, _, rfl, B4.same S5, by decide, by decide, fun r2 H6 r20 r21 B6 e6 => ?_⟩
      obtain ⟨top, htop, top0, top1⟩ := pick2 r20 r21 r10 r11
      walk_at "go"
      rw [e6 p1 np1.1, h5]
      simp only [f_at1, at_nn r20]
      rw [htop]
      walk_at "go"
      refine ⟨b, sp, _, rfl, B6, by decide, by decide, fun r3 H7 r30 r31 B7 e7 => ?_⟩
      walk_at "go"
      refine ⟨b, sp, _, rfl, B7, by decide, by decide, fun r4 H8 r40 r41 B8 e8 => ?_⟩
      walk_at "go"
      refine new_in fun p2 H9 hp2 S9 h9 => ?_
      have np2 := B8.ne hp2
      walk_at "go"
      refine ⟨b, sp, _, rfl, B8.same S9, by decide, by decide, fun r5 H10 r50 r51 B10 e10 => ?_⟩
      obtain ⟨ticks, hticks, ticks1⟩ := pick3 r50 r51 r30 r31 r40 r41
      walk_at "go"
      rw [e10 p2 np2.1, h9]
      simp only [f_at1, at_nn r50]
      rw [hticks]
      walk_at "go"
      have t10 : H10 t = some (.tup [.int time, .int way]) := by
        rw [e10 t nt.1]
        refine S9 _ _ ?_
        rw [e8 t nt.1, e7 t nt.1, e6 t nt.1]
        refine S5 _ _ ?_
        rw [e4 t nt.1]
        exact h3
      refine ⟨b, sp, ticks, top, rfl, B10, ticks1, top0, top1, fun d xs rs H11 hd h11 t11 len11 hm11 D11 B11 K11 nb11 => ?_⟩
      have nd := B10.ne hd
      have t11' := K11 _ _ nt.1 t10
      have hxl := t11.len
      walk_at "go"
      refine ⟨⟨_, SqL.of h11⟩, fun D hD => ?_⟩
      refine lpc_gen (walkQ t11) rfl hD (by rw [List.length_zip]; omega) (fun b => some (.int ((b.1.1 : Int) * (b.1.2 : Int)))) (fun H' => Same H11 H') (Same.refl _) (fun H o h => sm_mut h hD) (fun H' S => S _ _ h11) ?_ ?_
      · rintro ⟨r, x⟩ H12 N M hb S12 ⟨acc, ha, hN, hM⟩
        obtain ⟨hr1, c, hxa, hq⟩ := t11.mem hb
        have hxa : x = .ref c := hxa
        subst hxa
        have hq : H11 c = some (.tup (tN r)) := hq
        have hm := hm11 r hr1
        obtain ⟨s, m⟩ := r
        have hm : m ≤ 400 := hm
        walk_at "go"
        rw [S12 _ _ hq]
        unfold tN
        walk_at "go"
        exact hN _ _ rfl S12 ha
      · intro H12 S12 h12
        rw [zip_fm (fun r : Nat × Nat => V.int ((r.1 : Int) * (r.2 : Int))) _ _ hxl.symm, show rs.map (fun r : Nat × Nat => V.int ((r.1 : Int) * (r.2 : Int))) = (rs.map fun r => (r.1 : Int) * (r.2 : Int)).map V.int by rw [List.map_map]; rfl] at h12
        walk_at "go"
        rw [h12]
        walk_at "go"
        have ew : (rs.map fun r : Nat × Nat => (r.1 : Int) * (r.2 : Int)).sum = wayD rs := rfl
        rw [ew]
        refine new_in fun p3 H13 hp3 S13 h13 => ?_
        have B13 := (B11.same S12).same S13
        have np3 := (B11.same S12).ne hp3
        walk_at "go"
        refine ⟨b, sp, p3, _, rfl, B13, h13, np3.1, by decide, fun q ys H14 hq h14 hP B14 K14 => ?_⟩
        have nq := B13.ne hq
        have S1213 := S12.trans S13
        walk_at "go"
        refine ⟨⟨_, SqL.of h14⟩, ?_⟩
        have K13 : Kn b sp t d time way xs rs H13 := ⟨B13, S1213 _ _ t11', S1213 _ _ h11, t11.mono (same_tup S1213), nd.1⟩
        have K14 := K13.kp K14 B14
        refine lp_list ys (fun i σ H' => ∃ v8 v9 v10 v11 v12, σ = [some (.ref a), some (.ref b), some (.int (0 + (i0 : Int))), some (.ref t), some (.int top), some (.int (ticks : Int)), some (.ref d), some (.int (wayD rs)), v8, v9, v10, v11, v12, none, none] ∧ Kn b sp t d time way xs rs H' ∧ H' q = some (.lst ys)) ⟨v8, v9, v10, v11, v12, rfl, K14, h14⟩ ?_ ?_ ?_
        · rintro i σ H' hi ⟨_, _, _, _, _, _, _, h⟩
          exact h
        · rintro i x σ H15 hx ⟨v8, v9, v10, v11, v12, rfl, K15, h15⟩
          obtain ⟨e, rfl⟩ : ∃ e, x = .bl e := by
            have := hP.mem_iff.mp (List.mem_of_getElem? hx)
            simp only [List.mem_cons, List.not_mem_nil, or_false] at this
            rcases this with rfl | rfl <;> exact ⟨_, rfl⟩
          walk_at "go"
          rw [K15.2.1]
          walk_at "go"
          rw [K15.2.1]
          walk_at "go"
          refine ⟨e, time, way, rfl, w0, w1, fun p4 H16 S16 hp4 h16 => ?_⟩
          have K16 := K15.same S16
          walk_at "go"
          refine ⟨p4, d, _, xs, rs, (fun s : Nat => if e then worthE time way s else worthB time way s), rfl, h16, K16.2.2.1, K16.2.2.2.1, len11, hm11, fun r hr => ?_, fun H17 S17 => ?_⟩
          · have hr9 := D11.sp r hr
            unfold worthsL
            rw [List.getElem?_map, List.getElem?_range (by omega)]
            rfl
          have K17 := K16.same S17
          generalize hcount : sumBy (fun s : Nat => if e then worthE time way s else worthB time way s) rs = count
          have h17 := S17 _ _ (S16 _ _ h15)
          have hc0 : 0 ≤ count := by
            rw [← hcount]
            refine Int.le_trans (Int.le_of_eq (sumBy_zero rs).symm) (sumBy_le fun r hr => ?_)
            unfold worthE worthB
            have hm := Int.mul_nonneg w0 (Int.natCast_nonneg r.1)
            cases e <;> simp only [if_true, Bool.false_eq_true, if_false] <;> (try split) <;> omega
          walk_at "go"
          refine new_in fun p5 H18 hp5 S18 h18 => ?_
          have K18 := K17.same S18
          walk_at "go"
          rw [h18]
          have hdeed : ∃ f5 A5, [V.ref f1, V.ref f2][(if e then (1 : Int) else 0).toNat]? = some (.ref f5) ∧ FnAt P w K mg base f5 4 5 [] (spU A5) ∧ Cov (wayD rs) (A5 time way ticks count top) ∧ (∀ c : Int, ∀ r ∈ A5 time way ticks c top, 0 ≤ r.1 ∧ r.1 ≤ r.2 ∧ r.2 ≤ 10000) ∧ (∀ c : Int, (A5 time way ticks c top).length ≤ ticks + 1) ∧ ∃ f6, [V.ref f3, V.ref f4][(if e then (1 : Int) else 0).toNat]? = some (.ref f6) ∧ FnAt P w K mg base f6 2 4 [] (spL fun a b c d e => uniL (A5 a b c d e)) := by
            cases e with
            | true => exact ⟨f2, eStrL, rfl, A2.mono (by decide), by rw [← hcount]; exact either_cov D11 t0 w0 top0, fun c => e_bd t0 w0 ticks1 top0 top1, fun c => e_len _ _ _ _ _, f4, rfl, A4.mono (by decide)⟩
            | false => exact ⟨f1, bStrL, rfl, A1.mono (by decide), by rw [← hcount]; exact both_cov D11 w0, fun c => b_bd ticks1 top0 top1, fun c => b_len _ _ _ _ _, f3, rfl, A3.mono (by decide)⟩
          obtain ⟨f5, A5, hf5, A5at, hcov, hbd, hlen5, f6, hf6, A6at⟩ := hdeed
          have hi0 : (0 : Int) ≤ (if e = true then 1 else 0) := by cases e <;> decide
          simp only [f_at1, at_nn hi0, hf5]
          refine ⟨A5at.kept, ?_⟩
          rw [K18.2.1]
          walk_at "go"
          rw [K18.2.1]
          walk_at "go"
          refine vcall A5at (by decide) rfl ⟨time, way, count, top, ticks, rfl, t0, t1, w0, w1, ticks1, hc0, top0, top1, fun p6 zs H19 S19 hp6 h19 t19 => ?_⟩
          have K19 := K18.same S19
          have hu := uni_len (A5 time way ticks count top)
          have hu2 := hlen5 count
          walk_at "go"
          refine ⟨p6, zs, uniL (A5 time way ticks count top), rfl, h19, t19, by omega, uni_bd (hbd count), fun p7 H20 S20 hp7 h20 => ?_⟩
          have K20 := K19.same S20
          walk_at "go"
          rw [h20]
          walk_at "go"
          rw [if_neg (fun hn => hn (mem_spread (uni_cov hcov)))]
          refine ⟨b, sp, _, rfl, K20.1, by decide, by decide, fun r6 H21 r60 r61 B21 e21 => ?_⟩
          have K21 := K20.kp (fun q o n h => by rw [e21 q n]; exact h) B21
          walk_at "go"
          refine new_in fun p8 H22 hp8 S22 h22 => ?_
          have np8 := K21.1.ne hp8
          have K22 := K21.same S22
          walk_at "go"
          refine ⟨b, sp, p8, _, rfl, K22.1, h22, np8.1, by simp, fun q2 ws H23 hq2 h23 hP2 B23 KK23 => ?_⟩
          have K23 := K22.kp KK23 B23
          have nq2 := K22.1.ne hq2
          have h23q : H23 q = some (.lst ys) := by
            refine KK23 _ _ nq.1 (S22 _ _ ?_)
            rw [e21 q nq.1]
            exact S20 _ _ (S19 _ _ (S18 _ _ h17))
          walk_at "go"
          refine ⟨⟨_, SqL.of h23⟩, ?_⟩
          refine lp_list ws (fun i' σ H' => ∃ v11 v12, σ = [some (.ref a), some (.ref b), some (.int (0 + (i0 : Int))), some (.ref t), some (.int top), some (.int (ticks : Int)), some (.ref d), some (.int (wayD rs)), some (.bl e), some (.int count), some (.ref f5), v11, v12, none, none] ∧ Kn b sp t d time way xs rs H' ∧ H' q = some (.lst ys) ∧ H' q2 = some (.lst ws)) ⟨v11, v12, rfl, K23, h23q, h23⟩ ?_ ?_ ?_
          · rintro i σ H' hi ⟨_, _, _, _, _, h⟩
            exact h
          · rintro i' x σ H24 hx' ⟨v11, v12, rfl, K24, h24q, h24⟩
            obtain ⟨near, rfl, hn0⟩ : ∃ near : Int, x = .int near ∧ 0 ≤ near := by
              have := hP2.mem_iff.mp (List.mem_of_getElem? hx')
              simp only [List.mem_cons, List.not_mem_nil, or_false] at this
              rcases this with rfl | rfl | rfl | rfl
              · exact ⟨_, rfl, hc0⟩
              · exact ⟨_, rfl, by omega⟩
              · exact ⟨_, rfl, by split <;> omega⟩
              · exact ⟨_, rfl, hc0⟩
            walk_at "go"
            refine new_in fun p9 H25 hp9 S25 h25 => ?_
            have K25 := K24.same S25
            walk_at "go"
            rw [h25]
            simp only [f_at1, at_nn hi0, hf6]
            refine ⟨A6at.kept, ?_⟩
            refine vcall A6at (by decide) rfl ⟨t, time, way, near, top, ticks, rfl, K25.2.1, t0, t1, w0, w1, ticks1, hn0, top0, top1, fun p10 us H26 S26 hp10 h26 t26 => ?_⟩
            have K26 := K25.same S26
            walk_at "go"
            refine ⟨A5at.kept, ?_⟩
            rw [K26.2.1]
            walk_at "go"
            rw [K26.2.1]
            walk_at "go"
            refine vcall A5at (by decide) rfl ⟨time, way, near, top, ticks, rfl, t0, t1, w0, w1, ticks1, hn0, top0, top1, fun p11 us2 H27 S27 hp11 h27 t27 => ?_⟩
            have K27 := K26.same S27
            walk_at "go"
            refine sd_same (dp_pairsI h27 t27) (dp_pairsI (S27 _ _ h26) (t26.mono (same_tup S27))) (ok_pairsI _) (by decide) ?_
            walk_at "go"
            have hSS := (S25.trans S26).trans S27
            exact ⟨_, _, rfl, K27, hSS _ _ h24q, hSS _ _ h24⟩
          · rintro σ H' ⟨v11, v12, rfl, K24, h24q, h24⟩
            walk_at "go"
            exact ⟨_, _, _, _, _, rfl, K24, h24q⟩
        · rintro σ H' ⟨v8, v9, v10, v11, v12, rfl, K15, h15⟩
          walk_at "go"
          exact ⟨_, _, _, _, _, _, _, _, _, _, _, rfl, K15.1⟩
    · rintro σ H' ⟨v2, v3, v4, v5, v6, v7, v8, v9, v10, v11, v12, rfl, B2⟩
      walk_at "go"
      exact k H'
end

end CM

open PySem PySem.W PyProof.Rows in
set_option maxRecDepth 100000 in
set_option maxHeartbeats 0 in
theorem PySem.Challenge.cw_cabmeters_k26_ways_of_many_ticks_holds : PySem.Challenge.rw_cabmeters_k26_ways_of_many_ticks.Holds := by
  w_on; o_law; k_head; (case hw => w_witness2)
  k_fill
  refine CM.walkF (l := PySem.Challenge.rw_cabmeters_k26_ways_of_many_ticks) CM.s_law 5 rfl rfl ⟨rfl, by decide, by decide⟩ rfl (fun w h Y => PySem.W.kIn_of Y) ?F
  case F =>
    intro w mg h KX G
    have n_isinstance : mg "isinstance" = none := by
      refine' PySem.W.mg_none_of KX G ?z
      (case z => k_is)
    have n_str : mg "str" = none := by
      refine' PySem.W.mg_none_of KX G ?z
      (case z => k_is)
    have n_int : mg "int" = none := by
      refine' PySem.W.mg_none_of KX G ?z
      (case z => k_is)
    have n_bool : mg "bool" = none := by
      refine' PySem.W.mg_none_of KX G ?z
      (case z => k_is)
    have n_list : mg "list" = none := by
      refine' PySem.W.mg_none_of KX G ?z
      (case z => k_is)
    have n_len : mg "len" = none := by
      refine' PySem.W.mg_none_of KX G ?z
      (case z => k_is)
    have n_abs : mg "abs" = none := by
      refine' PySem.W.mg_none_of KX G ?z
      (case z => k_is)
    have n_min : mg "min" = none := by
      refine' PySem.W.mg_none_of KX G ?z
      (case z => k_is)
    have n_max : mg "max" = none := by
      refine' PySem.W.mg_none_of KX G ?z
      (case z => k_is)
    have n_sum : mg "sum" = none := by
      refine' PySem.W.mg_none_of KX G ?z
      (case z => k_is)
    have n_range : mg "range" = none := by
      refine' PySem.W.mg_none_of KX G ?z
      (case z => k_is)
    have n_sorted : mg "sorted" = none := by
      refine' PySem.W.mg_none_of KX G ?z
      (case z => k_is)
    have g_SPEEDS : ∃ t, mg "SPEEDS" = some (.int 10 t) := by
      refine' CM.const_mk KX G ?z ?e
      (case z => k_is)
      (case e => exact ⟨_, rfl⟩)
    have g_MOST_TICKS : ∃ t, mg "MOST_TICKS" = some (.int 400 t) := by
      refine' CM.const_mk KX G ?z ?e
      (case z => k_is)
      (case e => exact ⟨_, rfl⟩)
    have g_GREATEST_TIME : ∃ t, mg "GREATEST_TIME" = some (.int 60 t) := by
      refine' CM.const_mk KX G ?z ?e
      (case z => k_is)
      (case e => exact ⟨_, rfl⟩)
    have g_GREATEST_RATE : ∃ t, mg "GREATEST_RATE" = some (.int 6 t) := by
      refine' CM.const_mk KX G ?z ?e
      (case z => k_is)
      (case e => exact ⟨_, rfl⟩)
    have g_GREATEST_SPEED : ∃ t, mg "GREATEST_SPEED" = some (.int 9 t) := by
      refine' CM.const_mk KX G ?z ?e
      (case z => k_is)
      (case e => exact ⟨_, rfl⟩)
    have T : ∀ K, CM.Txt K mg := fun K => ⟨n_isinstance, n_str, n_int, n_bool, n_list, n_len, n_abs, n_min, n_max, n_sum, n_range, n_sorted, g_SPEEDS, g_MOST_TICKS, g_GREATEST_TIME, g_GREATEST_RATE, g_GREATEST_SPEED⟩
    have D_is_whole : CM.DfOf KX mg "is_whole" CM.s_is_whole ["value"] := by
      refine' CM.df_mk KX G ?a ?l ?c ?k ?b
      (case a => k_is)
      (case l => k_is)
      (case c => k_is)
      (case k => k_is)
      (case b => exact fun _ _ _ _ _ _ us hl => match us, hl with | [_], _ => rfl)
    have D_is_between : CM.DfOf KX mg "is_between" CM.s_is_between ["value", "least", "most"] := by
      refine' CM.df_mk KX G ?a ?l ?c ?k ?b
      (case a => k_is)
      (case l => k_is)
      (case c => k_is)
      (case k => k_is)
      (case b => exact fun _ _ _ _ _ _ us hl => match us, hl with | [_, _, _], _ => rfl)
    have D_check_top : CM.DfOf KX mg "check_top" CM.s_check_top ["top"] := by
      refine' CM.df_mk KX G ?a ?l ?c ?k ?b
      (case a => k_is)
      (case l => k_is)
      (case c => k_is)
      (case k => k_is)
      (case b => exact fun _ _ _ _ _ _ us hl => match us, hl with | [_], _ => rfl)
    have D_is_count : CM.DfOf KX mg "is_count" CM.s_is_count ["value"] := by
      refine' CM.df_mk KX G ?a ?l ?c ?k ?b
      (case a => k_is)
      (case l => k_is)
      (case c => k_is)
      (case k => k_is)
      (case b => exact fun _ _ _ _ _ _ us hl => match us, hl with | [_], _ => rfl)
    have D_check_ticks : CM.DfOf KX mg "check_ticks" CM.s_check_ticks ["ticks"] := by
      refine' CM.df_mk KX G ?a ?l ?c ?k ?b
      (case a => k_is)
      (case l => k_is)
      (case c => k_is)
      (case k => k_is)
      (case b => exact fun _ _ _ _ _ _ us hl => match us, hl with | [_], _ => rfl)
    have D_check_rates : CM.DfOf KX mg "check_rates" CM.s_check_rates ["time", "way"] := by
      refine' CM.df_mk KX G ?a ?l ?c ?k ?b
      (case a => k_is)
      (case l => k_is)
      (case c => k_is)
      (case k => k_is)
      (case b => exact fun _ _ _ _ _ _ us hl => match us, hl with | [_, _], _ => rfl)
    have D_united : CM.DfOf KX mg "united" CM.s_united ["stretches"] := by
      refine' CM.df_mk KX G ?a ?l ?c ?k ?b
      (case a => k_is)
      (case l => k_is)
      (case c => k_is)
      (case k => k_is)
      (case b => exact fun _ _ _ _ _ _ us hl => match us, hl with | [_], _ => rfl)
    have D_either_parts : CM.DfOf KX mg "either_parts" CM.s_either_parts ["time", "way", "ticks", "top"] := by
      refine' CM.df_mk KX G ?a ?l ?c ?k ?b
      (case a => k_is)
      (case l => k_is)
      (case c => k_is)
      (case k => k_is)
      (case b => exact fun _ _ _ _ _ _ us hl => match us, hl with | [_, _, _, _], _ => rfl)
    have D_both_stretches : CM.DfOf KX mg "both_stretches" CM.s_both_stretches ["time", "way", "ticks", "count", "top"] := by
      refine' CM.df_mk KX G ?a ?l ?c ?k ?b
      (case a => k_is)
      (case l => k_is)
      (case c => k_is)
      (case k => k_is)
      (case b => exact fun _ _ _ _ _ _ us hl => match us, hl with | [_, _, _, _, _], _ => rfl)
    have D_either_stretches : CM.DfOf KX mg "either_stretches" CM.s_either_stretches ["time", "way", "ticks", "count", "top"] := by
      refine' CM.df_mk KX G ?a ?l ?c ?k ?b
      (case a => k_is)
      (case l => k_is)
      (case c => k_is)
      (case k => k_is)
      (case b => exact fun _ _ _ _ _ _ us hl => match us, hl with | [_, _, _, _, _], _ => rfl)
    have D_either_ways : CM.DfDOf KX mg "either_ways" CM.s_either_ways ["time", "way", "ticks", "count", "top"] [.int 9] := by
      refine' CM.dfD_mk KX G ?a ?l ?c ?k ?lT ?oT ?hv (by decide) (by decide) ?b ?b2
      (case a => k_is)
      (case l => k_is)
      (case c => k_is)
      (case k => k_is)
      (case lT => k_is)
      (case oT => exact rfl)
      (case hv => exact .cons ⟨_, rfl⟩ (.nil))
      (case b => exact fun _ _ _ _ _ _ _ us its hl hl2 => match us, hl, its, hl2 with | [_, _, _, _], _, [_], _ => ⟨_, rfl, rfl⟩)
      (case b2 => exact fun _ _ _ _ _ _ _ us its hl hl2 => match us, hl, its, hl2 with | [_, _, _, _, _], _, [_], _ => ⟨_, rfl, rfl⟩)
    have D_both_ways : CM.DfDOf KX mg "both_ways" CM.s_both_ways ["time", "way", "ticks", "count", "top"] [.int 9] := by
      refine' CM.dfD_mk KX G ?a ?l ?c ?k ?lT ?oT ?hv (by decide) (by decide) ?b ?b2
      (case a => k_is)
      (case l => k_is)
      (case c => k_is)
      (case k => k_is)
      (case lT => k_is)
      (case oT => exact rfl)
      (case hv => exact .cons ⟨_, rfl⟩ (.nil))
      (case b => exact fun _ _ _ _ _ _ _ us its hl hl2 => match us, hl, its, hl2 with | [_, _, _, _], _, [_], _ => ⟨_, rfl, rfl⟩)
      (case b2 => exact fun _ _ _ _ _ _ _ us its hl hl2 => match us, hl, its, hl2 with | [_, _, _, _, _], _, [_], _ => ⟨_, rfl, rfl⟩)
    have D_law_bag : CM.DfOf KX mg "_law_bag" CM.s_law_bag ["_law_script"] := by
      refine' CM.df_mk KX G ?a ?l ?c ?k ?b
      (case a => k_is)
      (case l => k_is)
      (case c => k_is)
      (case k => k_is)
      (case b => exact fun _ _ _ _ _ _ us hl => match us, hl with | [_], _ => rfl)
    have D_law_draw : CM.DfOf KX mg "_law_draw" CM.s_law_draw ["_law_bag_here", "_law_size"] := by
      refine' CM.df_mk KX G ?a ?l ?c ?k ?b
      (case a => k_is)
      (case l => k_is)
      (case c => k_is)
      (case k => k_is)
      (case b => exact fun _ _ _ _ _ _ us hl => match us, hl with | [_, _], _ => rfl)
    have D_law_mixed : CM.DfOf KX mg "_law_mixed" CM.s_law_mixed ["_law_bag_here", "_law_items"] := by
      refine' CM.df_mk KX G ?a ?l ?c ?k ?b
      (case a => k_is)
      (case l => k_is)
      (case c => k_is)
      (case k => k_is)
      (case b => exact fun _ _ _ _ _ _ us hl => match us, hl with | [_, _], _ => rfl)
    have D_law_spread : CM.DfOf KX mg "_law_spread" CM.s_law_spread ["_law_told"] := by
      refine' CM.df_mk KX G ?a ?l ?c ?k ?b
      (case a => k_is)
      (case l => k_is)
      (case c => k_is)
      (case k => k_is)
      (case b => exact fun _ _ _ _ _ _ us hl => match us, hl with | [_], _ => rfl)
    have D_law_united : CM.DfOf KX mg "_law_united" CM.s_law_united ["_law_stretches"] := by
      refine' CM.df_mk KX G ?a ?l ?c ?k ?b
      (case a => k_is)
      (case l => k_is)
      (case c => k_is)
      (case k => k_is)
      (case b => exact fun _ _ _ _ _ _ us hl => match us, hl with | [_], _ => rfl)
    have D_law_rates : CM.DfOf KX mg "_law_rates" CM.s_law_rates ["_law_bag_here"] := by
      refine' CM.df_mk KX G ?a ?l ?c ?k ?b
      (case a => k_is)
      (case l => k_is)
      (case c => k_is)
      (case k => k_is)
      (case b => exact fun _ _ _ _ _ _ us hl => match us, hl with | [_], _ => rfl)
    have D_law_worths_by : CM.DfOf KX mg "_law_worths_by" CM.s_law_worths_by ["_law_is_either", "_law_time", "_law_way"] := by
      refine' CM.df_mk KX G ?a ?l ?c ?k ?b
      (case a => k_is)
      (case l => k_is)
      (case c => k_is)
      (case k => k_is)
      (case b => exact fun _ _ _ _ _ _ us hl => match us, hl with | [_, _, _], _ => rfl)
    have D_law_either : CM.DfOf KX mg "_law_either" CM.s_law_either ["_law_rates_here", "_law_ticks", "_law_count", "_law_top"] := by
      refine' CM.df_mk KX G ?a ?l ?c ?k ?b
      (case a => k_is)
      (case l => k_is)
      (case c => k_is)
      (case k => k_is)
      (case b => exact fun _ _ _ _ _ _ us hl => match us, hl with | [_, _, _, _], _ => rfl)
    have D_law_both : CM.DfOf KX mg "_law_both" CM.s_law_both ["_law_rates_here", "_law_ticks", "_law_count", "_law_top"] := by
      refine' CM.df_mk KX G ?a ?l ?c ?k ?b
      (case a => k_is)
      (case l => k_is)
      (case c => k_is)
      (case k => k_is)
      (case b => exact fun _ _ _ _ _ _ us hl => match us, hl with | [_, _, _, _], _ => rfl)
    have D_law_drawn : CM.DfOf KX mg "_law_drawn" CM.s_law_drawn ["_law_bag_here", "_law_ticks", "_law_top"] := by
      refine' CM.df_mk KX G ?a ?l ?c ?k ?b
      (case a => k_is)
      (case l => k_is)
      (case c => k_is)
      (case k => k_is)
      (case b => exact fun _ _ _ _ _ _ us hl => match us, hl with | [_, _, _], _ => rfl)
    have D_law_total : CM.DfOf KX mg "_law_total" CM.s_law_total ["_law_worths", "_law_drawn_here"] := by
      refine' CM.df_mk KX G ?a ?l ?c ?k ?b
      (case a => k_is)
      (case l => k_is)
      (case c => k_is)
      (case k => k_is)
      (case b => exact fun _ _ _ _ _ _ us hl => match us, hl with | [_, _], _ => rfl)
    have D_law : CM.LawOf KX mg CM.s_law := by
      refine' CM.law_mk KX G ?a ?l ?c ?k ?b
      (case a => k_is)
      (case l => k_is)
      (case c => k_is)
      (case k => k_is)
      (case b => exact fun _ _ _ _ _ _ us hl => match us, hl with | [_], _ => rfl)
    refine ⟨D_law, fun base _ _ => ?_⟩
    have F_is_whole := CM.ok_is_whole D_is_whole (T _) (P := (PySem.Challenge.rw_cabmeters_k26_ways_of_many_ticks).prog) (w := w) (base := base)
    have F_is_between := CM.ok_is_between D_is_between F_is_whole (T _) (P := (PySem.Challenge.rw_cabmeters_k26_ways_of_many_ticks).prog) (w := w) (base := base)
    have F_check_top := CM.ok_check_top D_check_top F_is_between (T _) (P := (PySem.Challenge.rw_cabmeters_k26_ways_of_many_ticks).prog) (w := w) (base := base)
    have F_is_count := CM.ok_is_count D_is_count (T _) (P := (PySem.Challenge.rw_cabmeters_k26_ways_of_many_ticks).prog) (w := w) (base := base)
    have F_check_ticks := CM.ok_check_ticks D_check_ticks F_is_between (T _) (P := (PySem.Challenge.rw_cabmeters_k26_ways_of_many_ticks).prog) (w := w) (base := base)
    have F_check_rates := CM.ok_check_rates D_check_rates F_is_between (T _) (P := (PySem.Challenge.rw_cabmeters_k26_ways_of_many_ticks).prog) (w := w) (base := base)
    have F_united := CM.ok_united D_united (T _) (P := (PySem.Challenge.rw_cabmeters_k26_ways_of_many_ticks).prog) (w := w) (base := base)
    have F_either_parts := CM.ok_either_parts D_either_parts (T _) (P := (PySem.Challenge.rw_cabmeters_k26_ways_of_many_ticks).prog) (w := w) (base := base)
    have F_both_stretches := CM.ok_both_stretches D_both_stretches (T _) (P := (PySem.Challenge.rw_cabmeters_k26_ways_of_many_ticks).prog) (w := w) (base := base)
    have F_either_stretches := CM.ok_either_stretches D_either_stretches F_both_stretches F_either_parts (T _) (P := (PySem.Challenge.rw_cabmeters_k26_ways_of_many_ticks).prog) (w := w) (base := base)
    have F_either_ways := CM.ok_either_ways D_either_ways F_check_rates F_check_ticks F_is_count F_check_top F_united F_either_stretches (T _) (P := (PySem.Challenge.rw_cabmeters_k26_ways_of_many_ticks).prog) (w := w) (base := base)
    have F_both_ways := CM.ok_both_ways D_both_ways F_check_rates F_check_ticks F_is_count F_check_top F_united F_both_stretches (T _) (P := (PySem.Challenge.rw_cabmeters_k26_ways_of_many_ticks).prog) (w := w) (base := base)
    have F_law_bag := CM.ok_law_bag D_law_bag (T _) (P := (PySem.Challenge.rw_cabmeters_k26_ways_of_many_ticks).prog) (w := w) (base := base)
    have F_law_draw := CM.ok_law_draw D_law_draw (T _) (P := (PySem.Challenge.rw_cabmeters_k26_ways_of_many_ticks).prog) (w := w) (base := base)
    have F_law_mixed := CM.ok_law_mixed D_law_mixed F_law_draw (T _) (P := (PySem.Challenge.rw_cabmeters_k26_ways_of_many_ticks).prog) (w := w) (base := base)
    have F_law_spread := CM.ok_law_spread D_law_spread (T _) (P := (PySem.Challenge.rw_cabmeters_k26_ways_of_many_ticks).prog) (w := w) (base := base)
    have F_law_united := CM.ok_law_united D_law_united (T _) (P := (PySem.Challenge.rw_cabmeters_k26_ways_of_many_ticks).prog) (w := w) (base := base)
    have F_law_rates := CM.ok_law_rates D_law_rates F_law_draw (T _) (P := (PySem.Challenge.rw_cabmeters_k26_ways_of_many_ticks).prog) (w := w) (base := base)
    have F_law_worths_by := CM.ok_law_worths_by D_law_worths_by (T _) (P := (PySem.Challenge.rw_cabmeters_k26_ways_of_many_ticks).prog) (w := w) (base := base)
    have F_law_either := CM.ok_law_either D_law_either F_law_united (T _) (P := (PySem.Challenge.rw_cabmeters_k26_ways_of_many_ticks).prog) (w := w) (base := base)
    have F_law_both := CM.ok_law_both D_law_both (T _) (P := (PySem.Challenge.rw_cabmeters_k26_ways_of_many_ticks).prog) (w := w) (base := base)
    have F_law_drawn := CM.ok_law_drawn D_law_drawn F_law_draw (T _) (P := (PySem.Challenge.rw_cabmeters_k26_ways_of_many_ticks).prog) (w := w) (base := base)
    have F_law_total := CM.ok_law_total D_law_total (T _) (P := (PySem.Challenge.rw_cabmeters_k26_ways_of_many_ticks).prog) (w := w) (base := base)
    exact CM.ok_law D_law.df F_law_bag F_law_draw F_law_mixed F_law_spread F_law_rates F_law_worths_by F_law_either F_law_both F_law_drawn F_law_total F_both_ways F_either_ways (T _)
#print axioms PySem.Challenge.cw_cabmeters_k26_ways_of_many_ticks_holds

