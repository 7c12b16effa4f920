import PyProof.Rows.All
import Wide.All
import OpenK.AllK
import Wide.FinOn
import HandS.ForMost
import HandS.Walk
import HandS.FStr
import HandS.Style
import HandS.IsInst
import HandS.Steps
import HandS.Star
import PySem.Challenge.RW_cabmeters_k13_ways_and_stops
set_option Elab.async false
set_option maxRecDepth 100000
set_option maxHeartbeats 4000000
set_option linter.unusedVariables false
namespace CM
open PySem PySem.Spec PyProof.Rows L2
section
variable {X : Cx}
theorem pe_gstr {x z : Str} {pos : Pos} (h : ∃ t, X.mg x = some (.str z t)) (hg : Gl X x := by rfl) (hd : (x == ("__debug__" : Str)) = false := by decide) : PE X (.Name x pos) (tC (.str z)) := by
  obtain ⟨t, h⟩ := h
  exact pe_glob hg h ⟨t, rfl⟩ hd
theorem pe_gint {x : Str} {z : Int} {pos : Pos} (h : ∃ t, X.mg x = some (.int z t)) (hg : Gl X x := by rfl) (hd : (x == ("__debug__" : Str)) = false := by decide) : PE X (.Name x pos) (tC (.int z)) := by
  obtain ⟨t, h⟩ := h
  exact pe_glob hg h ⟨t, rfl⟩ hd
theorem pe_ty {x : Str} {T : String} {pos : Pos} (h : X.mg x = none) (hv : bootBuiltins x = some (.type T) := by decide +kernel) (hg : Gl X x := by rfl) (hn : x ≠ "__name__" := by decide) (hd : (x == ("__debug__" : Str)) = false := by decide) : PE X (.Name x pos) (tC (.ty T)) :=
  pe_bltn hg h hv rfl hn hd

/-! ### texts as lists of signs -/
abbrev tl (x : Str) : List Nat := x.cps.toList
abbrev sL (l : List Nat) : Str := ⟨l.toArray⟩
theorem sL_tl (z : Str) : sL (tl z) = z := TL.mk_tl z
theorem tl_sL (l : List Nat) : tl (sL l) = l := rfl
theorem len_sL (l : List Nat) : (sL l).length = l.length := by simp [Str.length]
theorem len_tl (z : Str) : z.length = (tl z).length := TL.len_tl z
theorem sL_inj {l m : List Nat} (h : sL l = sL m) : l = m := by
  have e := congrArg tl h
  exact e
theorem sL_app (l m : List Nat) : sL l ++ sL m = sL (l ++ m) := TL.ext_tl (by rw [TL.tl_append])

/-- text * number -/
def repL (l : List Nat) (n : Nat) : List Nat := (List.replicate n l).flatten
theorem foldl_app (z : List Nat) : ∀ (n : Nat) (a : Array Nat), ((List.replicate n z.toArray).foldl (· ++ ·) a).toList = a.toList ++ repL z n
  | 0, a => by simp [repL]
  | n + 1, a => by
    rw [List.replicate_succ, List.foldl_cons, foldl_app z n, Array.toList_append]
    simp [repL, List.replicate_succ]
theorem repL_one (z : List Nat) : repL z 1 = z := by simp [repL]
theorem repL_nil (n : Nat) : repL [] n = [] := by
  induction n with
  | zero => rfl
  | succ n ih => simp [repL, List.replicate_succ]
theorem mul_eq (z : List Nat) (n : Nat) : Txt.mul (sL z) (n : Int) = sL (repL z n) := by
  unfold Txt.mul
  by_cases h : (n : Int) < 1
  · have e : n = 0 := by omega
    subst e
    rw [if_pos h]
    rfl
  · rw [if_neg h]
    by_cases h2 : (((n : Int) == 1) || (sL z).length == 0) = true
    · rw [if_pos h2]
      rcases Bool.or_eq_true _ _ ▸ h2 with h3 | h3
      · have e : n = 1 := by
          have := eq_of_beq h3
          omega
        subst e
        rw [repL_one]
      · have e : z = [] := by
          have := eq_of_beq h3
          rw [len_sL] at this
          exact List.length_eq_zero_iff.mp this
        subst e
        rw [repL_nil]
    · rw [if_neg h2]
      refine TL.ext_tl ?_
      show ((List.replicate ((n : Int)).toNat z.toArray).foldl (· ++ ·) #[]).toList = repL z n
      rw [foldl_app, Int.toNat_natCast]
      rfl
def rMulS : R2 := fun x y H Q => ∃ (l : List Nat) (n : Nat), x = .str (sL l) ∧ y = .int (n : Int) ∧ l.length * n ≤ 16777216 ∧ n ≤ 16777216 ∧ Q (.str (sL (repL l n))) H
theorem mulOk {l : List Nat} {n : Nat} (h : l.length * n ≤ 16777216) (h2 : n ≤ 16777216) : MulOk (sL l) (n : Int) := by
  refine ⟨?_, fun h0 _ => ?_, fun h0 _ => ?_⟩
  · rw [decide_eq_false (by omega), decide_eq_false (by omega)]
    rfl
  · rw [len_sL]
    intro hgt
    have h3 : (l.length : Int) * (n : Int) ≤ 16777216 := by
      rw [← Int.natCast_mul]
      exact Int.ofNat_le.mpr h
    have h4 : ((2 : Int) ^ 63 - 1) / n * n > (2 : Int) ^ 63 - 1 - n := by
      have a := Int.emod_add_mul_ediv ((2 : Int) ^ 63 - 1) (n : Int)
      rw [Int.mul_comm] at a
      have b := Int.emod_lt_of_pos ((2 : Int) ^ 63 - 1) (show (0 : Int) < n by omega)
      omega
    have h5 : (l.length : Int) * n ≥ ((2 : Int) ^ 63 - 1) / n * n := Int.mul_le_mul_of_nonneg_right (by omega) (by omega)
    omega
  · rw [len_sL, Int.toNat_natCast]
    exact decide_eq_false (by have : sizeLine ≥ 16777216 := by decide
                              omega)
theorem op_mulS : OpR X (binaryOp .Mult) rMulS := by
  intro pins s σ H x y v u Q I rx ry h
  obtain ⟨l, n, rfl, rfl, hz, h2, q⟩ := h
  obtain ⟨t, rfl⟩ := rx
  obtain ⟨t', rfl⟩ := ry
  rw [← mul_eq] at q
  exact SB.mul (mulOk hz h2) (fun t' k => ⟨.str _, H, I.tok _, ⟨_, rfl⟩, q⟩)
end

/-! ### defs as they stand behind the top -/
structure Df (K : PySem.W.Frag) (mg : Str → Option Value) (x : Str) (st : Stmt) (ps : List Str) : Prop where
  ex : ∃ f fd, mg x = some (.ref f) ∧ Fun K x x st f fd ∧ Binds K fd ps []
structure Fn (P : Program) (w : World) (K : PySem.W.Frag) (mg : Str → Option Value) (base : Heap) (x : Str) (k : Nat) (ps : List Str) (sp : Sp) : Prop where
  ex : ∃ f fd, mg x = some (.ref f) ∧ FnOk P w K mg base CX0 k f fd ps sp ∧ PySem.W.keepIn K (.ref f) = true ∧ Binds K fd ps [] ∧ ∃ oc od osl, K.lookup f = some ⟨oc, od, .func fd, osl⟩
section
variable {P : Program} {w : World} {K : PySem.W.Frag} {mg : Str → Option Value} {base : Heap}
theorem Df.ok {x : Str} {st : Stmt} {N ps : List Str} {k : Nat} {sp : Sp} (D : Df K mg x st ps) (S : FnScope N ps (defScope st)) (len : ∀ vs H Q E, sp vs H Q E → vs.length = ps.length)
    (hbody : ∀ (f : Addr) (cdv : Value) (A : Around) (outer : List Env) (s : Shared) (H : Hp) (vs : List V) (Q : VK) (E : XK), Room k (A.deeper (envOfC x (defScope st) s.heap.objs.size f cdv)) → sp vs H Q E →
      ∃ t, PSs (cxOf CX0 P w K mg base N x (defScope st) f cdv A outer s H E).nox (defBody st) t ∧ t { nx := fun _ H' => Q .non H', rt := Q } (start N vs) H) : Fn P w K mg base x (k + 1) ps sp := by
  obtain ⟨f, fd, h1, F, b⟩ := D.ex
  obtain ⟨oc, od, kV, doc, pm, an, cdv, ct, osl, e1, lk, hcd⟩ := F.ex
  exact ⟨f, fd, h1, F.ok S len (hbody f), F.kp, b, oc, od, osl, lk⟩
theorem Fn.imp {x : Str} {ps : List Str} {k : Nat} {sp sp' : Sp} (F : Fn P w K mg base x k ps sp) (h : ∀ vs H Q E, sp' vs H Q E → sp vs H Q E) : Fn P w K mg base x k ps sp' := by
  obtain ⟨f, fd, h1, G, h2, b⟩ := F.ex
  exact ⟨f, fd, h1, G.imp h, h2, b⟩
end
section
variable {X : Cx} {x : Str} {k : Nat} {ps : List Str} {sp : Sp} {e : Expr} {es : List Expr} {t : TA} {p pos : Pos}
theorem pe_fn (F : Fn X.prog X.w X.K X.mg X.base x k ps sp) (hr : Room k X.A) (hg : Gl X x) (ha : PA X (e :: es) t) (hdb : (x == ("__debug__" : Str)) = false := by decide)
    (he : starEach (e :: es) X.env = (false, eval e X.env) :: starEach es X.env := by rfl) (hpl : (backTo pos (starEach es X.env)).any (·.1) = false := by rfl) :
    PE X (.Call (.Name x p) (e :: es) [] pos) (tCall sp [] E0 t) := by
  obtain ⟨f, fd, h1, G, h2, b, _⟩ := F.ex
  exact pe_call G hr hg h1 h2 b .nil pass0 ha hdb he hpl
theorem pe_fn0 (F : Fn X.prog X.w X.K X.mg X.base x k ps sp) (hr : Room k X.A) (hg : Gl X x) (hdb : (x == ("__debug__" : Str)) = false := by decide) : PE X (.Call (.Name x p) [] [] pos) (tCall sp [] E0 tNil) := by
  obtain ⟨f, fd, h1, G, h2, b, _⟩ := F.ex
  exact pe_call0 G hr hg h1 h2 b .nil pass0 hdb
end

/-! ### heaps -/
theorem sm_new {H : Hp} {p : Addr} {o : HO} (h : H p = none) : Same H (upd H p o) := fun b u e => by
  rw [upd_ne (ne_of_none e h)]
  exact e
theorem sm_mut {H H' : Hp} {p : Addr} {o : HO} (e : Same H H') (h : H p = none) : Same H (upd H' p o) := fun b u hb => by
  rw [upd_ne (ne_of_none hb h)]
  exact e b u hb
theorem sm_seqT {K : PySem.W.Frag} {H H' : Hp} {a : Addr} {xs : List V} (e : Same H H') (h : SqT K H a xs) : SqT K H' a xs := by
  rcases h with (h | ⟨o, h⟩) | h
  · exact .inl (.inl (e _ _ h))
  · exact .inl (.inr ⟨o, e _ _ h⟩)
  · exact .inr h
/-- all but b is as it was -/
def Kp (b : Addr) (H H' : Hp) : Prop := ∀ q o, q ≠ b → H q = some o → H' q = some o
theorem Kp.refl (b : Addr) (H : Hp) : Kp b H H := fun _ _ _ h => h
theorem Kp.trans {b : Addr} {H H1 H2 : Hp} (a : Kp b H H1) (c : Kp b H1 H2) : Kp b H H2 := fun q o n h => c q o n (a q o n h)
theorem Kp.of_same {b : Addr} {H H1 : Hp} (a : Same H H1) : Kp b H H1 := fun q o _ h => a q o h
theorem Kp.put {b : Addr} {H : Hp} {o : HO} : Kp b H (upd H b o) := fun q u n h => by
  rw [upd_ne n]
  exact h
theorem Kp.mut {b : Addr} {H H' : Hp} {p : Addr} {o : HO} (e : Kp b H H') (h : H p = none) : Kp b H (upd H' p o) := fun q u n hq => by
  rw [upd_ne (ne_of_none hq h)]
  exact e q u n hq
theorem Kp.free {b : Addr} {H H' : Hp} (e : Kp b H H') {l : Addr} (hb : l ≠ b) (h : H' l = Option.none) : H l = Option.none := by
  cases q : H l with
  | none => rfl
  | some o =>
    rw [e l o hb q] at h
    cases h
end CM

/-! readings as functions of the values and of what stands in the heap -/
namespace CM
open PySem PySem.Spec PyProof.Rows L2

/-! ### operators -/
def addO (a b : Option HO) (H : Hp) (Q : VK) : Prop := match a, b with
  | some (.lst xs), some (.lst ys) => xs.length + ys.length ≤ 16777216 ∧ ∀ r, H r = none → Q (.ref r) (upd H r (.lst (xs ++ ys)))
  | _, _ => False
def rAddF : R2
  | .int i, .int j, H, Q => Q (.int (i + j)) H
  | .str a, .str b, H, Q => a.length + b.length ≤ 16777216 ∧ Q (.str (a ++ b)) H
  | .ref p, .ref q, H, Q => addO (H p) (H q) H Q
  | _, _, _, _ => False
def rIaddF : R2
  | .int i, .int j, H, Q => Q (.int (i + j)) H
  | .str a, .str b, H, Q => a.length + b.length ≤ 16777216 ∧ Q (.str (a ++ b)) H
  | _, _, _, _ => False
def rSubF : R2
  | .int i, .int j, H, Q => Q (.int (i - j)) H
  | _, _, _, _ => False
def mulO (a : Option HO) (j : Int) (H : Hp) (Q : VK) : Prop := match a with
  | some (.lst xs) => -(2 ^ 63) ≤ j ∧ j < 2 ^ 63 ∧ xs.length * j.toNat ≤ 16777216 ∧ ∀ r, H r = none → Q (.ref r) (upd H r (.lst (List.replicate j.toNat xs).flatten))
  | _ => False
def rMulF : R2
  | .int i, .int j, H, Q => CMul i j ∧ Q (.int (i * j)) H
  | .str a, .int j, H, Q => 0 ≤ j ∧ a.length * j.toNat ≤ 16777216 ∧ j ≤ 16777216 ∧ Q (.str (sL (repL (tl a) j.toNat))) H
  | .ref p, .int j, H, Q => mulO (H p) j H Q
  | _, _, _, _ => False
def rFdivF : R2
  | .int i, .int j, H, Q => CDiv i j ∧ Q (.int (i / j)) H
  | _, _, _, _ => False
def rModF : R2
  | .int i, .int j, H, Q => 0 < j ∧ Q (.int (i % j)) H
  | _, _, _, _ => False
def rPowF : R2
  | .int i, .int j, H, Q => CPow i j ∧ Q (.int (i ^ j.toNat)) H
  | _, _, _, _ => False
section
variable {X : Cx}
theorem opImp {f : Value → Value → Sem Value} {r r' : R2} (h : OpR X f r) (hi : ∀ x y H Q, r' x y H Q → r x y H Q) : OpR X f r' := fun pins s σ H x y v u Q I rx ry q => h pins s σ H x y v u Q I rx ry (hi _ _ _ _ q)
theorem op_addF : OpR X (binaryOp .Add) rAddF := by
  refine opImp (L2.OpR.or (L2.OpR.or op_add op_add_str) op_cat) fun x y H Q h => ?_
  unfold rAddF at h
  split at h
  · exact .inl (.inl ⟨_, _, rfl, rfl, h⟩)
  · exact .inl (.inr ⟨_, _, rfl, rfl, h⟩)
  · unfold addO at h
    split at h
    · exact .inr ⟨_, _, _, _, rfl, rfl, by assumption, by assumption, h⟩
    · exact h.elim
  · exact h.elim
theorem iop_addF : OpR X (inplaceOp .Add) rIaddF := by
  refine opImp (L2.OpR.or iop_add iop_add_str) fun x y H Q h => ?_
  unfold rIaddF at h
  split at h
  · exact .inl ⟨_, _, rfl, rfl, h⟩
  · exact .inr ⟨_, _, rfl, rfl, h⟩
  · exact h.elim
theorem op_subF : OpR X (binaryOp .Sub) rSubF := by
  refine opImp op_sub fun x y H Q h => ?_
  unfold rSubF at h
  split at h
  · exact ⟨_, _, rfl, rfl, h⟩
  · exact h.elim
theorem op_mulF : OpR X (binaryOp .Mult) rMulF := by
  refine opImp (L2.OpR.or (L2.OpR.or op_mul op_mulS) op_rep) fun x y H Q h => ?_
  unfold rMulF at h
  split at h
  · exact .inl (.inl ⟨_, _, rfl, rfl, h⟩)
  · obtain ⟨h0, h1, h2, h3⟩ := h
    rename_i a j
    refine .inl (.inr ⟨tl a, j.toNat, by rw [sL_tl], by rw [Int.toNat_of_nonneg h0], by rw [← len_tl]; exact h1, by omega, h3⟩)
  · unfold mulO at h
    split at h
    · exact .inr ⟨_, _, _, rfl, rfl, by assumption, h⟩
    · exact h.elim
  · exact h.elim
theorem op_fdivF : OpR X (binaryOp .FloorDiv) rFdivF := by
  refine opImp op_fdiv fun x y H Q h => ?_
  unfold rFdivF at h
  split at h
  · exact ⟨_, _, rfl, rfl, h⟩
  · exact h.elim
theorem op_modF : OpR X (binaryOp .Mod) rModF := by
  refine opImp op_mod fun x y H Q h => ?_
  unfold rModF at h
  split at h
  · exact ⟨_, _, rfl, rfl, h⟩
  · exact h.elim
theorem op_powF : OpR X (binaryOp .Pow) rPowF := by
  refine opImp op_pow fun x y H Q h => ?_
  unfold rPowF at h
  split at h
  · exact ⟨_, _, rfl, rfl, h⟩
  · exact h.elim
end

/-! ### comparisons -/
def rLtF : R2
  | .int i, .int j, H, Q => Q (.bl (decide (i < j))) H
  | _, _, _, _ => False
def rLeF : R2
  | .int i, .int j, H, Q => Q (.bl (decide (i ≤ j))) H
  | _, _, _, _ => False
def rGtF : R2
  | .int i, .int j, H, Q => Q (.bl (decide (j < i))) H
  | _, _, _, _ => False
def rGeF : R2
  | .int i, .int j, H, Q => Q (.bl (decide (j ≤ i))) H
  | _, _, _, _ => False
section
variable {X : Cx}
theorem op_ltF : OpR X (compareOp .Lt) rLtF := opImp op_lt fun x y H Q h => by
  unfold rLtF at h
  split at h
  · exact ⟨_, _, rfl, rfl, h⟩
  · exact h.elim
theorem op_leF : OpR X (compareOp .LtE) rLeF := opImp op_le fun x y H Q h => by
  unfold rLeF at h
  split at h
  · exact ⟨_, _, rfl, rfl, h⟩
  · exact h.elim
theorem op_gtF : OpR X (compareOp .Gt) rGtF := opImp op_gt fun x y H Q h => by
  unfold rGtF at h
  split at h
  · exact ⟨_, _, rfl, rfl, h⟩
  · exact h.elim
theorem op_geF : OpR X (compareOp .GtE) rGeF := opImp op_ge fun x y H Q h => by
  unfold rGeF at h
  split at h
  · exact ⟨_, _, rfl, rfl, h⟩
  · exact h.elim
end
def rEqF : R2
  | .int i, .int j, H, Q => Q (.bl (decide (i = j))) H
  | .str a, .str b, H, Q => Q (.bl (decide (a = b))) H
  | .bl a, .bl b, H, Q => Q (.bl (decide (a = b))) H
  | .non, .non, H, Q => Q (.bl true) H
  | .non, .int _, H, Q => Q (.bl false) H
  | .non, .str _, H, Q => Q (.bl false) H
  | .int _, .str _, H, Q => Q (.bl false) H
  | .str _, .int _, H, Q => Q (.bl false) H
  | .int _, .non, H, Q => Q (.bl false) H
  | .str _, .non, H, Q => Q (.bl false) H
  | _, _, _, _ => False
def rNeF : R2 := fun x y H Q => rEqF x y H fun v H' => ∃ b, v = .bl b ∧ Q (.bl (!b)) H'
section
variable {X : Cx}
theorem op_eqF : OpR X (compareOp .Eq) rEqF := opImp op_eq fun x y H Q h => by
  unfold rEqF at h
  split at h
  case h_11 => exact h.elim
  all_goals refine ⟨rfl, ?_⟩
  all_goals simp at h ⊢
  all_goals exact h
theorem op_neF : OpR X (compareOp .NotEq) rNeF := opImp op_ne fun x y H Q h => by
  unfold rNeF rEqF at h
  split at h
  case h_11 => exact h.elim
  all_goals refine ⟨rfl, ?_⟩
  all_goals simp at h ⊢
  all_goals exact h
end
def rInF : R2
  | .str a, .str z, H, Q => ∃ c, a = ⟨#[c]⟩ ∧ Q (.bl (decide (c ∈ z.cps.toList))) H
  | _, _, _, _ => False
def rNotInF : R2
  | .str a, .str z, H, Q => ∃ c, a = ⟨#[c]⟩ ∧ Q (.bl (!decide (c ∈ z.cps.toList))) H
  | _, _, _, _ => False
section
variable {X : Cx}
theorem op_inF : OpR X (compareOp .In) rInF := opImp op_in_sign fun x y H Q h => by
  unfold rInF at h
  split at h
  · obtain ⟨c, rfl, q⟩ := h
    exact ⟨c, _, rfl, rfl, q⟩
  · exact h.elim
theorem op_notInF : OpR X (compareOp .NotIn) rNotInF := opImp op_notIn_sign fun x y H Q h => by
  unfold rNotInF at h
  split at h
  · obtain ⟨c, rfl, q⟩ := h
    exact ⟨c, _, rfl, rfl, q⟩
  · exact h.elim
end

/-! ### items, slices -/
def atO (o : Option HO) (i : Int) (H : Hp) (Q : VK) : Prop := match o with
  | some (.lst xs) => (match atI xs i with | some v => Q v H | none => False)
  | some (.tup xs) => (match atI xs i with | some v => Q v H | none => False)
  | _ => False
def rIxF : R2
  | .ref p, .int i, H, Q => atO (H p) i H Q
  | .str z, .int i, H, Q => z.length ≤ 16777216 ∧ (match atI z.cps.toList i with | some c => Q (.str ⟨#[c]⟩) H | none => False)
  | _, _, _, _ => False
def slO (o : Option HO) (lo hi : Option Int) (H : Hp) (Q : VK) : Prop := match o with
  | some (.lst xs) => ∀ p, H p = none → Q (.ref p) (upd H p (.lst (cutV xs lo hi)))
  | _ => False
def rSlF : V → Option Int → Option Int → Hp → VK → Prop
  | .ref p, lo, hi, H, Q => slO (H p) lo hi H Q
  | .str z, lo, hi, H, Q => z.length ≤ 16777216 ∧ Q (.str (cutS z lo hi)) H
  | _, _, _, _, _ => False
def rSetF : V → V → V → Hp → (Hp → Prop) → Prop
  | .ref p, .int i, v, H, Q => (match H p with
    | some (.lst xs) => (match ixN xs.length i with | some j => Q (upd H p (.lst (xs.set j v))) | none => False)
    | _ => False)
  | _, _, _, _, _ => False
section
variable {X : Cx}
theorem ixImp {r r' : R2} (h : IxR X r) (hi : ∀ x y H Q, r' x y H Q → r x y H Q) : IxR X r' := fun a b pins s σ H x y v u Q I rx ry q hs => h a b pins s σ H x y v u Q I rx ry (hi _ _ _ _ q) hs
theorem ix_F : IxR X rIxF := by
  refine ixImp (L2.IxR.or ix_list (L2.IxR.or ix_tup ix_str)) fun x y H Q h => ?_
  unfold rIxF at h
  split at h
  · unfold atO at h
    split at h
    · rename_i h0
      split at h
      · exact .inl ⟨_, _, _, _, rfl, rfl, SqL.of h0, by assumption, h⟩
      · exact h.elim
    · rename_i h0
      split at h
      · exact .inr (.inl ⟨_, _, _, _, rfl, rfl, SqT.of h0, by assumption, h⟩)
      · exact h.elim
    · exact h.elim
  · obtain ⟨h1, h⟩ := h
    split at h
    · exact .inr (.inr ⟨_, _, _, rfl, rfl, h1, by assumption, h⟩)
    · exact h.elim
  · exact h.elim
theorem sl_F : SlR X rSlF := by
  intro pins s σ H x v vl vu lo hi sl Q I rx hs pl pu h
  unfold rSlF at h
  split at h
  · unfold slO at h
    split at h
    · rename_i h0
      exact sl_list pins s σ H _ v vl vu lo hi sl Q I rx hs pl pu ⟨_, _, rfl, SqL.of h0, h⟩
    · exact h.elim
  · exact sl_str pins s σ H _ v vl vu lo hi sl Q I rx hs pl pu ⟨_, rfl, h⟩
  · exact h.elim
theorem set_F : PSet X rSetF := by
  intro pins s σ H o i v ov iv u Q I r1 r2 r3 h
  unfold rSetF at h
  split at h
  · split at h
    · split at h
      · exact set_list pins s σ H _ _ v ov iv u Q I r1 r2 r3 ⟨_, _, _, _, rfl, rfl, by assumption, by assumption, h⟩
      · exact h.elim
    · exact h.elim
  · exact h.elim
end

/-! ### calls of built-ins -/
def asInts : List V → Option (List Int)
  | [] => some []
  | .int i :: r => (asInts r).map (i :: ·)
  | _ :: _ => none
theorem asInts_map : ∀ ns : List Int, asInts (ns.map V.int) = some ns
  | [] => rfl
  | n :: r => by
    show (asInts (r.map V.int)).map (n :: ·) = _
    rw [asInts_map r]
    rfl
theorem asInts_some : ∀ {xs : List V} {ns : List Int}, asInts xs = some ns → xs = ns.map V.int
  | [], ns, h => by
    cases h
    rfl
  | .int i :: r, ns, h => by
    have h : (asInts r).map (i :: ·) = some ns := h
    cases e : asInts r with
    | none =>
      rw [e] at h
      cases h
    | some ms =>
      rw [e] at h
      cases h
      rw [asInts_some e]
      rfl
  | .non :: _, _, h => by cases h
  | .bl _ :: _, _, h => by cases h
  | .str _ :: _, _, h => by cases h
  | .byt _ :: _, _, h => by cases h
  | .flt _ :: _, _, h => by cases h
  | .ref _ :: _, _, h => by cases h
  | .ty _ :: _, _, h => by cases h
def asBools : List V → Option (List Bool)
  | [] => some []
  | .bl i :: r => (asBools r).map (i :: ·)
  | _ :: _ => none
theorem asBools_map : ∀ ns : List Bool, asBools (ns.map V.bl) = some ns
  | [] => rfl
  | n :: r => by
    show (asBools (r.map V.bl)).map (n :: ·) = _
    rw [asBools_map r]
    rfl
theorem asBools_some : ∀ {xs : List V} {ns : List Bool}, asBools xs = some ns → xs = ns.map V.bl
  | [], ns, h => by
    cases h
    rfl
  | .bl i :: r, ns, h => by
    have h : (asBools r).map (i :: ·) = some ns := h
    cases e : asBools r with
    | none =>
      rw [e] at h
      cases h
    | some ms =>
      rw [e] at h
      cases h
      rw [asBools_some e]
      rfl
  | .non :: _, _, h => by cases h
  | .int _ :: _, _, h => by cases h
  | .str _ :: _, _, h => by cases h
  | .byt _ :: _, _, h => by cases h
  | .flt _ :: _, _, h => by cases h
  | .ref _ :: _, _, h => by cases h
  | .ty _ :: _, _, h => by cases h
def asStrs : List V → Option (List Str)
  | [] => some []
  | .str i :: r => (asStrs r).map (i :: ·)
  | _ :: _ => none
theorem asStrs_map : ∀ ns : List Str, asStrs (ns.map V.str) = some ns
  | [] => rfl
  | n :: r => by
    show (asStrs (r.map V.str)).map (n :: ·) = _
    rw [asStrs_map r]
    rfl
theorem asStrs_some : ∀ {xs : List V} {ns : List Str}, asStrs xs = some ns → xs = ns.map V.str
  | [], ns, h => by
    cases h
    rfl
  | .str i :: r, ns, h => by
    have h : (asStrs r).map (i :: ·) = some ns := h
    cases e : asStrs r with
    | none =>
      rw [e] at h
      cases h
    | some ms =>
      rw [e] at h
      cases h
      rw [asStrs_some e]
      rfl
  | .non :: _, _, h => by cases h
  | .int _ :: _, _, h => by cases h
  | .bl _ :: _, _, h => by cases h
  | .byt _ :: _, _, h => by cases h
  | .flt _ :: _, _, h => by cases h
  | .ref _ :: _, _, h => by cases h
  | .ty _ :: _, _, h => by cases h

abbrev RC := List V → Hp → VK → Prop
def lenO (o : Option HO) (H : Hp) (Q : VK) : Prop := match o with
  | some (.lst xs) => Q (.int (xs.length : Int)) H
  | some (.tup xs) => Q (.int (xs.length : Int)) H
  | _ => False
def rLenF : RC
  | [.str z], H, Q => z.length ≤ 16777216 ∧ Q (.int (z.length : Int)) H
  | [.ref p], H, Q => lenO (H p) H Q
  | _, _, _ => False
def rAbsF : RC
  | [.int i], H, Q => Q (.int (if i < 0 then -i else i)) H
  | _, _, _ => False
def maxO (o : Option HO) (H : Hp) (Q : VK) : Prop := match o with
  | some (.lst xs) => (match asInts xs with | some ns => 0 < ns.length ∧ ∀ m, m ∈ ns → (∀ y, y ∈ ns → y ≤ m) → Q (.int m) H | none => False)
  | _ => False
def minO (o : Option HO) (H : Hp) (Q : VK) : Prop := match o with
  | some (.lst xs) => (match asInts xs with | some ns => 0 < ns.length ∧ ∀ m, m ∈ ns → (∀ y, y ∈ ns → m ≤ y) → Q (.int m) H | none => False)
  | _ => False
def rMaxF : RC
  | [.int i, .int j], H, Q => Q (.int (if j > i then j else i)) H
  | [.ref p], H, Q => maxO (H p) H Q
  | _, _, _ => False
def rMinF : RC
  | [.int i, .int j], H, Q => Q (.int (if j < i then j else i)) H
  | [.ref p], H, Q => minO (H p) H Q
  | _, _, _ => False
def rIntF : RC
  | [.int i], H, Q => Q (.int i) H
  | [.bl b], H, Q => Q (.int (if b then 1 else 0)) H
  | [.str a], H, Q => (match PySem.intText? a with | some n => a.length ≤ 640 ∧ Q (.int n) H | none => False)
  | _, _, _ => False
def rStrF : RC
  | [.int i], H, Q => i.natAbs.log2 < 1920 ∧ Q (.str (toString i)) H
  | _, _, _ => False
def listO (o : Option HO) (H : Hp) (Q : VK) : Prop := match o with
  | some (.lst xs) => ∀ l, H l = none → Q (.ref l) (upd H l (.lst xs))
  | some (.tup xs) => ∀ l, H l = none → Q (.ref l) (upd H l (.lst xs))
  | _ => False
def rListF : RC
  | [.ref p], H, Q => listO (H p) H Q
  | _, _, _ => False
def tupO (p : Addr) (o : Option HO) (H : Hp) (Q : VK) : Prop := match o with
  | some (.lst xs) => ∀ l, H l = none → Q (.ref l) (upd H l (.tup xs))
  | some (.tup _) => Q (.ref p) H
  | _ => False
def rTupF : RC
  | [.ref p], H, Q => tupO p (H p) H Q
  | _, _, _ => False
def sumO (o : Option HO) (H : Hp) (Q : VK) : Prop := match o with
  | some (.lst xs) => (match asInts xs with | some ns => Q (.int ns.sum) H | none => False)
  | _ => False
def rSumF : RC
  | [.ref p], H, Q => sumO (H p) H Q
  | _, _, _ => False
def allO (o : Option HO) (H : Hp) (Q : VK) : Prop := match o with
  | some (.lst xs) => (match asBools xs with | some ns => Q (.bl (ns.all id)) H | none => False)
  | _ => False
def rAllF : RC
  | [.ref p], H, Q => allO (H p) H Q
  | _, _, _ => False
section
variable {X : Cx}
theorem callImp {f : Value} {r r' : RC} (h : CallR X f r) (hi : ∀ xs H Q, r' xs H Q → r xs H Q) : CallR X f r' := fun pins s σ H xs us Q I rx q => h pins s σ H xs us Q I rx (hi _ _ _ q)
theorem call_lenF : CallR X (.builtin "len") rLenF := by
  refine callImp (L2.CallR.or call_len_str call_len_seq) fun xs H Q h => ?_
  unfold rLenF at h
  split at h
  · exact .inl ⟨_, rfl, h⟩
  · unfold lenO at h
    split at h
    · rename_i h0
      exact .inr ⟨_, _, rfl, .inl (SqL.of h0), h⟩
    · rename_i h0
      exact .inr ⟨_, _, rfl, .inr (SqT.of h0), h⟩
    · exact h.elim
  · exact h.elim
theorem call_absF : CallR X (.builtin "abs") rAbsF := callImp call_abs fun xs H Q h => by
  unfold rAbsF at h
  split at h
  · exact ⟨_, rfl, h⟩
  · exact h.elim
theorem call_maxF (hc : X.calm = true) : CallR X (.builtin "max") rMaxF := by
  refine callImp (L2.CallR.or (call_max2 hc) (cr_max hc)) fun xs H Q h => ?_
  unfold rMaxF at h
  split at h
  · exact .inl ⟨_, _, rfl, h⟩
  · unfold maxO at h
    split at h
    · rename_i h0
      split at h
      · rename_i h1
        exact .inr ⟨_, _, rfl, by rw [← asInts_some h1]; exact SqL.of h0, h⟩
      · exact h.elim
    · exact h.elim
  · exact h.elim
theorem call_minF (hc : X.calm = true) : CallR X (.builtin "min") rMinF := by
  refine callImp (L2.CallR.or (call_min2 hc) (cr_min hc)) fun xs H Q h => ?_
  unfold rMinF at h
  split at h
  · exact .inl ⟨_, _, rfl, h⟩
  · unfold minO at h
    split at h
    · rename_i h0
      split at h
      · rename_i h1
        exact .inr ⟨_, _, rfl, by rw [← asInts_some h1]; exact SqL.of h0, h⟩
      · exact h.elim
    · exact h.elim
  · exact h.elim
theorem call_intF' : CallR X (.type "int") rIntF := by
  refine callImp (L2.CallR.or call_int1 call_int_str) fun xs H Q h => ?_
  unfold rIntF at h
  split at h
  · exact .inl (.inl ⟨_, rfl, h⟩)
  · exact .inl (.inr ⟨_, rfl, h⟩)
  · split at h
    · exact .inr ⟨_, _, rfl, by assumption, h⟩
    · exact h.elim
  · exact h.elim
theorem call_strF : CallR X (.type "str") rStrF := callImp call_str_int fun xs H Q h => by
  unfold rStrF at h
  split at h
  · exact ⟨_, rfl, h⟩
  · exact h.elim
theorem call_listF : CallR X (.type "list") rListF := callImp call_list_of fun xs H Q h => by
  unfold rListF at h
  split at h
  · unfold listO at h
    split at h
    · rename_i h0
      exact ⟨_, _, rfl, .inl (SqL.of h0), h⟩
    · rename_i h0
      exact ⟨_, _, rfl, .inr (SqT.of h0), h⟩
    · exact h.elim
  · exact h.elim
theorem call_tupF : CallR X (.type "tuple") rTupF := callImp call_tuple_of fun xs H Q h => by
  unfold rTupF at h
  split at h
  · unfold tupO at h
    split at h
    · rename_i h0
      exact ⟨_, _, rfl, .inl ⟨SqL.of h0, h⟩⟩
    · rename_i h0
      exact ⟨_, _, rfl, .inr ⟨SqT.of h0, h⟩⟩
    · exact h.elim
  · exact h.elim
theorem call_sumF (hc : X.calm = true) : CallR X (.builtin "sum") rSumF := callImp (cr_sum hc) fun xs H Q h => by
  unfold rSumF at h
  split at h
  · unfold sumO at h
    split at h
    · rename_i h0
      split at h
      · rename_i h1
        exact ⟨_, _, rfl, by rw [← asInts_some h1]; exact SqL.of h0, h⟩
      · exact h.elim
    · exact h.elim
  · exact h.elim
theorem call_allF (hc : X.calm = true) : CallR X (.builtin "all") rAllF := callImp (cr_all hc) fun xs H Q h => by
  unfold rAllF at h
  split at h
  · unfold allO at h
    split at h
    · rename_i h0
      split at h
      · rename_i h1
        exact ⟨_, _, rfl, by rw [← asBools_some h1]; exact SqL.of h0, h⟩
      · exact h.elim
    · exact h.elim
  · exact h.elim
end

/-! ### isinstance of plain values and built-in classes -/
def tyF (x : V) (H : Hp) : Option String := match x with
  | .non => some "NoneType"
  | .bl _ => some "bool"
  | .int _ => some "int"
  | .str _ => some "str"
  | .ref a => (match H a with
    | some (.lst _) => some "list"
    | some (.tup _) => some "tuple"
    | some (.dK _) => some "dict"
    | some (.dT _) => some "dict"
    | _ => none)
  | _ => none
theorem tyF_of {K : PySem.W.Frag} {H : Hp} {x : V} {T : String} (h : tyF x H = some T) : TyX K H x (.type T) := by
  unfold tyF at h
  split at h
  · cases h; exact .base .non
  · cases h; exact .base (.bl _)
  · cases h; exact .base (.int _)
  · cases h; exact .base (.str _)
  · split at h
    · rename_i h0; cases h; exact .base (.lst h0)
    · rename_i h0; cases h; exact .base (.tup h0)
    · rename_i h0; cases h; exact .base (.dK h0)
    · rename_i h0; cases h; exact .base (.dT h0)
    · cases h
  · cases h
/-- is a built-in class below another one (of those that are met here) -/
def subTy (T U : String) : Bool := T == U || (T == "bool" && U == "int")
def okTy (T : String) : Bool := T == "NoneType" || T == "bool" || T == "int" || T == "str" || T == "list" || T == "tuple" || T == "dict"
def rIsiF : RC
  | [x, .ty U], H, Q => (match tyF x H with | some T => okTy U = true ∧ Q (.bl (subTy T U)) H | none => False)
  | _, _, _ => False
theorem kit_of_ty {K : PySem.W.Frag} {T U : String} (hT : okTy T = true) (hU : okTy U = true) : PySem.W.kitOne K (.type T) (.type U) = some (subTy T U) := by
  unfold okTy at hT hU
  simp only [Bool.or_eq_true, beq_iff_eq] at hT hU
  rcases hT with (((((hT | hT) | hT) | hT) | hT) | hT) | hT <;> subst hT <;> rcases hU with (((((hU | hU) | hU) | hU) | hU) | hU) | hU <;> subst hU <;> rfl
theorem tyF_ok {x : V} {H : Hp} {T : String} (h : tyF x H = some T) : okTy T = true := by
  unfold tyF at h
  split at h
  · cases h; rfl
  · cases h; rfl
  · cases h; rfl
  · cases h; rfl
  · split at h <;> first | (cases h; rfl) | cases h
  · cases h
section
variable {X : Cx}
theorem call_isiF : CallR X (.builtin "isinstance") rIsiF := callImp call_isi fun xs H Q h => by
  unfold rIsiF at h
  split at h
  · split at h
    · rename_i h0
      exact ⟨_, _, _, _, _, rfl, .ty _, tyF_of h0, kit_of_ty (tyF_ok h0) h.1, h.2⟩
    · exact h.elim
  · exact h.elim
end

/-! ### methods -/
def isL (x : V) (H : Hp) : Prop := match x with
  | .ref p => (match H p with | some (.lst _) => True | _ => False)
  | _ => False
theorem isL_ty {K : PySem.W.Frag} {x : V} {H : Hp} (h : isL x H) : tyV K "list" x H := by
  unfold isL at h
  split at h
  · split at h
    · rename_i h0
      exact .inl ⟨rfl, _, SqL.of h0⟩
    · exact h.elim
  · exact h.elim
def tLM0 (r : V → List V → Hp → VK → Prop) (to : TE) : TE := fun σ H Q => to σ H fun x H1 => isL x H1 ∧ r x [] H1 Q
def tLM (r : V → List V → Hp → VK → Prop) (to : TE) (t : TA) : TE := fun σ H Q => to σ H fun x H1 => isL x H1 ∧ t σ H1 fun xs H2 => r x xs H2 Q
def rAppF : V → List V → Hp → VK → Prop
  | .ref l, [y], H, Q => (match H l with | some (.lst xs) => xs.length < 16777216 ∧ Q .non (upd H l (.lst (xs ++ [y]))) | _ => False)
  | _, _, _, _ => False
def rPopF : V → List V → Hp → VK → Prop
  | .ref l, [], H, Q => (match H l with | some (.lst xs) => (match xs[xs.length - 1]? with | some y => Q y (upd H l (.lst xs.dropLast)) | none => False) | _ => False)
  | .ref l, [.int i], H, Q => (match H l with | some (.lst xs) => 0 ≤ i ∧ (match xs[i.toNat]? with | some y => i < 16777216 ∧ Q y (upd H l (.lst (xs.eraseIdx i.toNat))) | none => False) | _ => False)
  | _, _, _, _ => False
def rClearF : V → List V → Hp → VK → Prop
  | .ref l, [], H, Q => (match H l with | some (.lst _) => Q .non (upd H l (.lst [])) | _ => False)
  | _, _, _, _ => False
def rExtF : V → List V → Hp → VK → Prop
  | .ref l, [.ref b], H, Q => (match H l, H b with | some (.lst xs), some (.lst zs) => xs.length + zs.length ≤ 16777216 ∧ Q .non (upd H l (.lst (xs ++ zs))) | _, _ => False)
  | _, _, _, _ => False
section
variable {X : Cx} {o e : Expr} {es : List Expr} {to : TE} {t : TA} {r r' : V → List V → Hp → VK → Prop} {id : String}
theorem PE.imp {e : Expr} {t t' : TE} (h : PE X e t) (hi : ∀ σ H Q, t' σ H Q → t σ H Q) : PE X e t' := ⟨fun pins s σ H Q I q => h.run pins s σ H Q I (hi _ _ _ q)⟩
theorem mtImp (h : MtR X id r) (hi : ∀ x xs H Q, r' x xs H Q → r x xs H Q) : MtR X id r' := fun pins s σ H x xs v us Q I rx rs q => h pins s σ H x xs v us Q I rx rs (hi _ _ _ _ q)
theorem seqIx {i : Int} {xs : List V} {y : V} (h0 : 0 ≤ i) (h : xs[i.toNat]? = some y) : seqIndex? i xs.length = some i.toNat := by
  have hl : i.toNat < xs.length := (List.getElem?_eq_some_iff.mp h).1
  unfold seqIndex?
  simp
  omega
end
end CM

namespace CM
open PySem PySem.Spec PyProof.Rows L2
/-- a reading that may be asked for less -/
def up (t : TE) : TE := fun σ H Q => ∃ Q0 : VK, t σ H Q0 ∧ ∀ x H1, Q0 x H1 → Q x H1
section
variable {X : Cx} {o e : Expr} {es : List Expr} {to te : TE} {t : TA} {r r' : V → List V → Hp → VK → Prop} {id : String} {name : Str} {apos cpos : Pos}
theorem pe_up {e : Expr} {t : TE} (h : PE X e t) : PE X e (up t) := ⟨fun pins s σ H Q I ⟨_, q, hi⟩ => thn (h.run pins s σ H _ I q) fun _ _ ⟨x, H1, I1, r1, q1⟩ => ⟨x, H1, I1, r1, hi _ _ q1⟩⟩
theorem pe_lm0 (slot : Slot "list" name id) (hty : typeOf (.builtin id) = pure (.type "method_descriptor")) (hm : MtR X id r) (ho : PE X o to) (hb : attributeBase o name X.env (eval o X.env) = eval o X.env := by rfl)
    (hl : (apos.endLine == cpos.line) = true := by rfl) : PE X (.Call (.Attribute o name apos) [] [] cpos) (tLM0 r to) :=
  PE.imp (pe_bm0 PySem.F.plainAttrs_list slot hty hm (pe_up ho) hb hl) fun _ _ _ h => ⟨_, h, fun _ _ q => ⟨isL_ty q.1, q.2⟩⟩
theorem pe_lm (slot : Slot "list" name id) (hty : typeOf (.builtin id) = pure (.type "method_descriptor")) (hm : MtR X id r) (ho : PE X o to) (ha : PA X (e :: es) t) (hb : attributeBase o name X.env (eval o X.env) = eval o X.env := by rfl)
    (hf : ((backTo cpos (starEach (e :: es) X.env)).all (fun x => !x.1) && (backToKw cpos (keywordEach [] X.env)).all (fun x => x.1.isSome) && decide ((e :: es).length + ([] : List Keyword).length + (if ([] : List Keyword).isEmpty then 0 else 1) < 30)) = true := by rfl)
    (hl : (apos.endLine == cpos.line) = true := by rfl) (hs : starEach (e :: es) X.env = (false, eval e X.env) :: starEach es X.env := by rfl) (hp : (backTo cpos (starEach es X.env)).any (·.1) = false := by rfl) :
    PE X (.Call (.Attribute o name apos) (e :: es) [] cpos) (tLM r to t) :=
  PE.imp (pe_bm PySem.F.plainAttrs_list slot hty hm (pe_up ho) ha hb hf hl hs hp) fun _ _ _ h => ⟨_, h, fun _ _ q => ⟨isL_ty q.1, q.2⟩⟩
theorem mt_appF : MtR X "list.append" rAppF := mtImp mt_append fun x xs H Q h => by
  unfold rAppF at h
  split at h
  · split at h
    · exact ⟨_, _, _, rfl, rfl, by assumption, h⟩
    · exact h.elim
  · exact h.elim
theorem mt_popF : MtR X "list.pop" rPopF := mtImp (L2.MtR.or mt_pop mt_popAt) fun x xs H Q h => by
  unfold rPopF at h
  split at h
  · split at h
    · split at h
      · exact .inl ⟨_, _, _, rfl, rfl, by assumption, by assumption, h⟩
      · exact h.elim
    · exact h.elim
  · split at h
    · obtain ⟨h0, h⟩ := h
      split at h
      · rename_i h1
        exact .inr ⟨_, _, _, _, _, rfl, rfl, by assumption, by omega, by omega, seqIx h0 h1, h1, h.2⟩
      · exact h.elim
    · exact h.elim
  · exact h.elim
theorem mt_clearF : MtR X "list.clear" rClearF := mtImp mt_clear fun x xs H Q h => by
  unfold rClearF at h
  split at h
  · split at h
    · exact ⟨_, _, rfl, rfl, by assumption, h⟩
    · exact h.elim
  · exact h.elim
theorem mt_extF : MtR X "list.extend" rExtF := mtImp mt_extend fun x xs H Q h => by
  unfold rExtF at h
  split at h
  · split at h
    · exact ⟨_, _, _, _, rfl, rfl, by assumption, by assumption, h⟩
    · exact h.elim
  · exact h.elim

/-! ### texts: join, split -/
def asCodes : List V → Option (List (List Nat))
  | [] => some []
  | .str i :: r => (asCodes r).map (tl i :: ·)
  | _ :: _ => none
theorem asCodes_map : ∀ ns : List (List Nat), asCodes (ns.map fun l => V.str (sL l)) = some ns
  | [] => rfl
  | n :: r => by
    show (asCodes (r.map fun l => V.str (sL l))).map (n :: ·) = _
    rw [asCodes_map r]
    rfl
theorem asCodes_some : ∀ {xs : List V} {ns : List (List Nat)}, asCodes xs = some ns → xs = (ns.map sL).map V.str
  | [], ns, h => by
    cases h
    rfl
  | .str i :: r, ns, h => by
    have h : (asCodes r).map (tl i :: ·) = some ns := h
    cases e : asCodes r with
    | none =>
      rw [e] at h
      cases h
    | some ms =>
      rw [e] at h
      cases h
      rw [asCodes_some e, List.map_cons, List.map_cons, sL_tl]
  | .non :: _, _, h => by cases h
  | .int _ :: _, _, h => by cases h
  | .bl _ :: _, _, h => by cases h
  | .byt _ :: _, _, h => by cases h
  | .flt _ :: _, _, h => by cases h
  | .ref _ :: _, _, h => by cases h
  | .ty _ :: _, _, h => by cases h
def joinO (a : Str) (o : Option HO) (H : Hp) (Q : VK) : Prop := match o with
  | some (.lst xs) => (match asCodes xs with | some ws => (ws.map (·.length)).sum + ws.length * a.length ≤ 16777216 ∧ Q (.str (sL (TL.joinL (tl a) ws))) H | none => False)
  | _ => False
def rJoinF : V → List V → Hp → VK → Prop
  | .str a, [.ref p], H, Q => joinO a (H p) H Q
  | _, _, _, _ => False
theorem join_sL (a : Str) (ws : List (List Nat)) : Txt.join a (ws.map sL) = sL (TL.joinL (tl a) ws) := by
  refine TL.ext_tl ?_
  rw [TL.join_eq, TL.tl_join, List.map_map]
  have e : (TL.tl ∘ sL) = id := rfl
  rw [e, List.map_id]
theorem lens_sL (ws : List (List Nat)) : (ws.map sL).map (·.length) = ws.map (·.length) := by
  rw [List.map_map]
  refine List.map_congr_left fun l _ => ?_
  exact len_sL l
theorem mt_joinF : MtR X "str.join" rJoinF := mtImp mt_join fun x xs H Q h => by
  unfold rJoinF at h
  split at h
  · unfold joinO at h
    split at h
    · rename_i h0
      split at h
      · rename_i a p _ _ _ ws h1
        refine ⟨a, p, ws.map sL, rfl, rfl, .inl (by rw [← asCodes_some h1]; exact SqL.of h0), ?_, ?_⟩
        · rw [lens_sL, List.length_map]
          exact h.1
        · rw [join_sL]
          exact h.2
      · exact h.elim
    · exact h.elim
  · exact h.elim
theorem pe_joinF (ho : PE X o to) (he : PE X e te) (hs : starEach [e] X.env = [(false, eval e X.env)] := by rfl) (hb : attributeBase o "join" X.env (eval o X.env) = eval o X.env := by rfl) (hl : (apos.endLine == cpos.line) = true := by rfl) :
    PE X (.Call (.Attribute o "join" apos) [e] [] cpos) (tM1 rJoinF to te) := pe_m1 PySem.F.slot_str_join PySem.F.type_str_join mt_joinF ho he hs hb hl
/-- a.split(b), b one sign -/
def splitL (c : Nat) (l : List Nat) : List (List Nat) := TL.spl [c] 0 [] l
def rSplitF : V → List V → Hp → VK → Prop
  | .str a, [.str b], H, Q => ∃ c, b = sL [c] ∧ c < 256 ∧ a.length ≤ 16777214 ∧ ∀ p, H p = none → Q (.ref p) (upd H p (.lst ((splitL c (tl a)).map fun l => V.str (sL l))))
  | _, _, _, _ => False
theorem split_sL {c : Nat} (hc : c < 256) (a : Str) : Txt.split a (sL [c]) = (splitL c (tl a)).map sL := by
  refine TL.map_tl_inj ?_
  have h := TL.split_spl a (sL [c]) (by show [c] ≠ []; simp) (TL.kind_ok (by show (([c] : List Nat).toArray.all (· < 256)) = true; simp [hc]))
  rw [h, List.map_map]
  have e : (TL.tl ∘ sL) = id := rfl
  rw [e, List.map_id]
  rfl
theorem mt_splitF : MtR X "str.split" rSplitF := mtImp mt_split fun x xs H Q h => by
  unfold rSplitF at h
  split at h
  · obtain ⟨c, rfl, hc, hl, q⟩ := h
    refine ⟨_, _, rfl, rfl, rfl, ?_, fun p hp => ?_⟩
    · show _ + 2 ≤ 2 ^ 24
      omega
    · rw [split_sL hc, List.map_map]
      exact q p hp
  · exact h.elim
theorem pe_splitF (ho : PE X o to) (he : PE X e te) (hs : starEach [e] X.env = [(false, eval e X.env)] := by rfl) (hb : attributeBase o "split" X.env (eval o X.env) = eval o X.env := by rfl) (hl : (apos.endLine == cpos.line) = true := by rfl) :
    PE X (.Call (.Attribute o "split" apos) [e] [] cpos) (tM1 rSplitF to te) := pe_m1 PySem.F.slot_str_split PySem.F.type_str_split mt_splitF ho he hs hb hl
end

/-! ### str(n), int(text) of figures -/
theorem toS (n : Nat) : (toString ((n : Nat) : Int) : Str) = sL (TL.numL n) := TL.ext_tl (TL.tl_num n)
end CM

namespace CM
open PySem PySem.Spec PyProof.Rows L2
abbrev St' := L2.St
def nones : Nat → L2.St
  | 0 => []
  | n + 1 => none :: nones n
theorem nones0 : nones 0 = [] := rfl
theorem nonesS {n : Nat} : nones (n + 1) = none :: nones n := rfl
theorem nones_eq : ∀ n, List.replicate n none = nones n
  | 0 => rfl
  | n + 1 => by
    rw [List.replicate_succ, nones_eq n]
    rfl
theorem start_eq {N : List Str} {vs : List V} : L2.start N vs = vs.map some ++ nones (N.length - vs.length) := by
  unfold L2.start
  rw [nones_eq]
/-- a seal: what stands beside it is left as it is -/
inductive Seal {α : Sort u} (a : α) : Type | mk
/-- a new object, wherever it comes to lie -/
def New (H : Hp) (o : HO) (Q : VK) (_ : Seal Q) : Prop := ∀ p, H p = none → Q (.ref p) (upd H p o)
theorem new_in {H : Hp} {o : HO} {Q : VK} (h : ∀ p H', H p = none → Same H H' → H' p = some o → Q (.ref p) H') : New H o Q .mk := fun p hp => h p _ hp (sm_new hp) upd_same
/-- a promise asked for -/
def CallSp (sp : Sp) (vs : List V) (H : Hp) (Q : VK) (_ : Seal Q) (E : XK) : Prop := sp vs H Q E
/-! ### the readings, fully applied -/
section
variable {σ : L2.St} {H : Hp} {Q : VK} {Qb : Bool → Hp → Prop} {Qa : List V → Hp → Prop} {D : Ends} {ta tb tc te to ti : TE} {c d : TT} {t u : TS} {as : TA} {g g' : TG} {gs : TGs} {r r' : R2} {v x : V}
theorem w_var {i : Nat} : tVar i σ H Q = (∃ v, σ[i]? = some (some v) ∧ Q v H) := rfl
theorem w_c : tC v σ H Q = Q v H := rfl
theorem w_seq : tSeq t u D σ H = t { D with nx := u D } σ H := rfl
theorem w_next : tNext D σ H = D.nx σ H := rfl
theorem w_brk : tBreak D σ H = D.bk σ H := rfl
theorem w_cont : tCont D σ H = D.ct σ H := rfl
theorem w_drop : tDrop te D σ H = te σ H fun _ H1 => D.nx σ H1 := rfl
theorem w_ret : tRet te D σ H = te σ H D.rt := rfl
theorem w_retN : tRetN D σ H = D.rt .non H := rfl
theorem w_ifs : tIfS c t u D σ H = c σ H fun b H1 => if b = true then t D σ H1 else u D σ H1 := rfl
theorem w_never : tNever D σ H = False := rfl
theorem w_asg : tAsg te g D σ H = te σ H fun x H1 => g x σ H1 D.nx := rfl
theorem w_aug {i : Nat} {k : TIp} : tAug i te k D σ H = ∃ x, σ[i]? = some (some x) ∧ te σ H fun y H1 => k x y H1 fun z H2 => D.nx (σ.set i (some z)) H2 := rfl
theorem w_gname {i : Nat} {R : L2.St → Hp → Prop} : gName i v σ H R = R (σ.set i (some v)) H := rfl
theorem w_gnil {R : L2.St → Hp → Prop} : gNil [] σ H R = R σ H := by
  unfold gNil
  simp
theorem w_gcons {r : List V} {R : L2.St → Hp → Prop} : gCons g gs (v :: r) σ H R = g v σ H fun σ' H' => gs r σ' H' R := by
  unfold gCons
  apply propext
  constructor
  · rintro ⟨a, b, h1, h2⟩
    cases h1
    exact h2
  · exact fun h => ⟨_, _, rfl, h⟩
theorem w_gsub {s : TSet} {R : L2.St → Hp → Prop} : gSub to ti s v σ H R = to σ H fun o H1 => ti σ H1 fun i H2 => s o i v H2 fun H3 => R σ H3 := rfl
theorem w_op : tOp r ta tb σ H Q = ta σ H fun x H1 => tb σ H1 fun y H2 => r x y H2 Q := rfl
theorem w_un {k : V → Hp → VK → Prop} : tUn k ta σ H Q = ta σ H fun x H1 => k x H1 Q := rfl
theorem w_test : tTest te σ H Qb = te σ H fun x H' => ∃ k, x = .bl k ∧ Qb k H' := rfl
theorem w_b : tB te σ H Qb = te σ H fun x H' => ∃ k, x = .bl k ∧ Qb k H' := rfl
theorem w_and : tAnd c d σ H Qb = c σ H fun k H1 => if k = true then d σ H1 Qb else Qb false H1 := rfl
theorem w_or : tOr c d σ H Qb = c σ H fun k H1 => if k = true then Qb true H1 else d σ H1 Qb := rfl
theorem w_not : tNot c σ H Qb = c σ H fun k H1 => Qb (!k) H1 := rfl
theorem w_andV : tAndV ta tb σ H Q = ta σ H fun x H1 => ∃ k, x = .bl k ∧ if k = true then tb σ H1 Q else Q (.bl false) H1 := rfl
theorem w_orV : tOrV ta tb σ H Q = ta σ H fun x H1 => ∃ k, x = .bl k ∧ if k = true then Q (.bl true) H1 else tb σ H1 Q := rfl
theorem w_notV : tNotV ta σ H Q = ta σ H fun x H1 => ∃ k, x = .bl k ∧ Q (.bl (!k)) H1 := rfl
theorem w_if : tIf c ta tb σ H Q = c σ H fun k H1 => if k = true then ta σ H1 Q else tb σ H1 Q := rfl
theorem w_chain : tChain r r' ta tb tc σ H Q = ta σ H fun x H1 => tb σ H1 fun y H2 => r x y H2 fun z H3 => ∃ k, z = .bl k ∧ (if k = true then tc σ H3 fun w' H4 => r' y w' H4 Q else Q (.bl false) H3) := rfl
theorem w_nil : tNil σ H Qa = Qa [] H := rfl
theorem w_cons : tCons ta as σ H Qa = ta σ H fun x H1 => as σ H1 fun xs H2 => Qa (x :: xs) H2 := rfl
theorem w_tup : tTup as σ H Q = as σ H fun xs H1 => xs.length ≤ 16777216 ∧ New H1 (.tup xs) Q .mk := rfl
theorem w_lst : tLst as σ H Q = as σ H fun xs H1 => xs.length ≤ 16777216 ∧ New H1 (.lst xs) Q .mk := rfl
theorem w_cb {k : RC} : tCB k as σ H Q = as σ H fun vs H1 => k vs H1 Q := rfl
theorem w_call {sp : Sp} {dvs : List V} {E : XK} : tCall sp dvs E as σ H Q = as σ H fun vs H1 => CallSp sp (vs ++ dvs) H1 Q .mk E := rfl
theorem w_part {Qo : Option Int → Hp → Prop} : tPart te σ H Qo = te σ H fun x H1 => ∃ i, x = .int i ∧ Qo (some i) H1 := rfl
theorem w_nopart {Qo : Option Int → Hp → Prop} : tNoPart σ H Qo = Qo none H := rfl
theorem w_sl {k : V → Option Int → Option Int → Hp → VK → Prop} {a b : TO} : tSl k te a b σ H Q = te σ H fun x H1 => a σ H1 fun l H2 => b σ H2 fun u H3 => k x l u H3 Q := rfl
theorem w_lm0 {k : V → List V → Hp → VK → Prop} : tLM0 k to σ H Q = to σ H fun x H1 => isL x H1 ∧ k x [] H1 Q := rfl
theorem w_lm {k : V → List V → Hp → VK → Prop} : tLM k to as σ H Q = to σ H fun x H1 => isL x H1 ∧ as σ H1 fun xs H2 => k x xs H2 Q := rfl
theorem w_m0 {k : V → List V → Hp → VK → Prop} : tM0 k to σ H Q = to σ H fun x H1 => (∃ a, x = .str a) ∧ k x [] H1 Q := rfl
theorem w_m1 {k : V → List V → Hp → VK → Prop} : tM1 k to te σ H Q = to σ H fun x H1 => (∃ a, x = .str a) ∧ te σ H1 fun y H2 => k x [y] H2 Q := rfl
def fmtO (x : V) (H1 : Hp) (Q : VK) : Prop := (∃ y : Str, x = .str y ∧ y.length ≤ sizeLine ∧ Q (.str y) H1) ∨ ∃ i : Int, x = .int i ∧ i.natAbs.log2 < 1920 ∧ Q (.str (toString i)) H1
theorem w_fmt : tFmt te σ H Q = te σ H fun x H1 => fmtO x H1 Q := rfl
theorem f_fmt1 {y : Str} : fmtO (.str y) H Q = (y.length ≤ 16777216 ∧ Q (.str y) H) := by
  unfold fmtO
  simp [sizeLine]
theorem f_fmt2 {i : Int} : fmtO (.int i) H Q = (i.natAbs.log2 < 1920 ∧ Q (.str (toString i)) H) := by
  unfold fmtO
  simp
def jsO (x : V) (ts : List TE) (acc : Str) (σ : L2.St) (H1 : Hp) (R : Str → Hp → Prop) : Prop := ∃ y : Str, x = .str y ∧ (acc ++ y).length ≤ sizeLine ∧ tJs ts (acc ++ y) σ H1 R
theorem w_js0 {acc : Str} {R : Str → Hp → Prop} : tJs [] acc σ H R = R acc H := rfl
theorem w_js {ts : List TE} {acc : Str} {R : Str → Hp → Prop} : tJs (te :: ts) acc σ H R = te σ H fun x H1 => jsO x ts acc σ H1 R := rfl
theorem f_js {y : Str} {ts : List TE} {acc : Str} {R : Str → Hp → Prop} : jsO (.str y) ts acc σ H R = ((acc ++ y).length ≤ 16777216 ∧ tJs ts (acc ++ y) σ H R) := by
  unfold jsO
  simp [sizeLine]
theorem emptyS : Str.empty = sL [] := rfl
theorem w_yes : tYes σ H Qb = Qb true H := rfl
theorem w_isN : rIsN v x H Q = (x = .non ∧ Q (.bl (decide (v = .non))) H) := rfl
theorem w_notN : rNotN v x H Q = (x = .non ∧ Q (.bl (!decide (v = .non))) H) := rfl
theorem w_isB : rIsB v x H Q = ∃ a b : Bool, v = .bl a ∧ x = .bl b ∧ Q (.bl (decide (a = b))) H := rfl
theorem w_notB : rNotB v x H Q = ∃ a b : Bool, v = .bl a ∧ x = .bl b ∧ Q (.bl (!decide (a = b))) H := rfl
theorem w_rU {k : Int → V} {i : Int} : rU k (.int i) H Q = Q (k i) H := by
  unfold rU
  simp

/-! ### loops -/
/-- what a for asks once its iterator has come -/
def Lp (J : It) (g : TG) (tb : TS) (D : Ends) (_ : Seal g) (_ : Seal tb) (_ : Seal D) (σ : L2.St) (H1 : Hp) : Prop := ∃ W : Nat → Nat → L2.St → Hp → Prop, (∃ m, W 0 m σ H1) ∧ ∀ i m σ H, W i m σ H →
  (J.stop i H ∧ D.nx σ H) ∨ (J.go i H ∧ ∃ N : L2.St → Hp → Prop, (∀ σ' H', N σ' H' → ∃ m', m' < m ∧ W (i + 1) m' σ' H') ∧ ∀ x H', J.yld i H x H' → g x σ H' fun σ2 H2 => tb { D with nx := N, ct := N, bk := D.nx } σ2 H2)
theorem w_for {wi : TI} : tFor wi g t D σ H = wi σ H fun J H1 => Lp J g t D .mk .mk .mk σ H1 := rfl
def rng1O (vs : List V) (H1 : Hp) (R : It → Hp → Prop) : Prop := ∃ j : Int, vs = [.int j] ∧ -(2 ^ 62) ≤ j ∧ j < 2 ^ 62 ∧ R (Itr 0 j.toNat) H1
def rng2O (vs : List V) (H1 : Hp) (R : It → Hp → Prop) : Prop := ∃ i j : Int, vs = [.int i, .int j] ∧ (-(2 ^ 62) ≤ i ∧ i < 2 ^ 62 ∧ -(2 ^ 62) ≤ j ∧ j < 2 ^ 62) ∧ R (Itr i (j - i).toNat) H1
theorem w_rng1 {R : It → Hp → Prop} : iRng1 as σ H R = as σ H fun vs H1 => rng1O vs H1 R := rfl
theorem w_rng2 {R : It → Hp → Prop} : iRng2 as σ H R = as σ H fun vs H1 => rng2O vs H1 R := rfl
theorem f_rng1 {j : Int} {R : It → Hp → Prop} : rng1O [.int j] H R = (-(2 ^ 62) ≤ j ∧ j < 2 ^ 62 ∧ R (Itr 0 j.toNat) H) := by
  unfold rng1O
  simp
theorem f_rng2 {i j : Int} {R : It → Hp → Prop} : rng2O [.int i, .int j] H R = ((-(2 ^ 62) ≤ i ∧ i < 2 ^ 62 ∧ -(2 ^ 62) ≤ j ∧ j < 2 ^ 62) ∧ R (Itr i (j - i).toNat) H) := by
  unfold rng2O
  apply propext
  constructor
  · rintro ⟨a, b, h1, h2⟩
    cases h1
    exact h2
  · exact fun h => ⟨i, j, rfl, h⟩
theorem w_ilist {K : PySem.W.Frag} {R : It → Hp → Prop} : iList K te σ H R = te σ H fun x H1 => ∃ a, x = .ref a ∧ (∃ xs, SqL K H1 a xs) ∧ R (Itl K a) H1 := rfl
theorem w_itup {K : PySem.W.Frag} {R : It → Hp → Prop} : iTup K te σ H R = te σ H fun x H1 => ∃ a, x = .ref a ∧ (∃ xs, SqT K H1 a xs) ∧ R (Itt K a) H1 := rfl
theorem w_istr {R : It → Hp → Prop} : iStr te σ H R = te σ H fun v H1 => ∃ x, v = .str x ∧ R (Its x) H1 := rfl
/-- an invariant as it stands -/
def Hd (P : L2.St → Hp → Prop) (_ : Seal P) (σ : L2.St) (H : Hp) : Prop := P σ H
/-- by an invariant over the turn, the slots and the heap -/
theorem lp_range {lo : Int} {n : Nat} (Pv : Nat → L2.St → Hp → Prop) (h0 : Pv 0 σ H) (hs : ∀ i σ H, i < n → Pv i σ H → g (.int (lo + i)) σ H fun σ2 H2 => t { D with nx := Hd (Pv (i + 1)) .mk, ct := Hd (Pv (i + 1)) .mk, bk := D.nx } σ2 H2)
    (hd : ∀ σ H, Pv n σ H → D.nx σ H) : Lp (Itr lo n) g t D .mk .mk .mk σ H := for_range Pv h0 hs hd
theorem lp_list {K : PySem.W.Frag} {a : Addr} (xs : List V) (Pv : Nat → L2.St → Hp → Prop) (h0 : Pv 0 σ H) (hl : ∀ i σ H, i ≤ xs.length → Pv i σ H → H a = some (.lst xs))
    (hs : ∀ i x σ H, xs[i]? = some x → Pv i σ H → g x σ H fun σ2 H2 => t { D with nx := Hd (Pv (i + 1)) .mk, ct := Hd (Pv (i + 1)) .mk, bk := D.nx } σ2 H2) (hd : ∀ σ H, Pv xs.length σ H → D.nx σ H) : Lp (Itl K a) g t D .mk .mk .mk σ H :=
  for_list Pv h0 (fun i σ H hi p => SqL.of (hl i σ H hi p)) hs hd
theorem lp_tup {K : PySem.W.Frag} {a : Addr} (xs : List V) (Pv : Nat → L2.St → Hp → Prop) (h0 : Pv 0 σ H) (hl : ∀ i σ H, i ≤ xs.length → Pv i σ H → H a = some (.tup xs))
    (hs : ∀ i x σ H, xs[i]? = some x → Pv i σ H → g x σ H fun σ2 H2 => t { D with nx := Hd (Pv (i + 1)) .mk, ct := Hd (Pv (i + 1)) .mk, bk := D.nx } σ2 H2) (hd : ∀ σ H, Pv xs.length σ H → D.nx σ H) : Lp (Itt K a) g t D .mk .mk .mk σ H :=
  for_tup Pv h0 (fun i σ H hi p => SqT.of (hl i σ H hi p)) hs hd
theorem lp_str (l : List Nat) (Pv : Nat → L2.St → Hp → Prop) (h0 : Pv 0 σ H) (hs : ∀ i c σ H, l[i]? = some c → Pv i σ H → g (.str (sL [c])) σ H fun σ2 H2 => t { D with nx := Hd (Pv (i + 1)) .mk, ct := Hd (Pv (i + 1)) .mk, bk := D.nx } σ2 H2)
    (hd : ∀ σ H, Pv l.length σ H → D.nx σ H) : Lp (Its (sL l)) g t D .mk .mk .mk σ H := by
  refine for_it (walk_str (z := sL l)) Pv h0 (fun _ _ _ _ _ => trivial) ?_ (fun σ H p => hd σ H (by simpa using p))
  rintro i x σ H H' hi p ⟨rfl, c, hc, rfl⟩
  exact hs i c σ _ (by simpa using hc) p

/-- what a comprehension asks once its iterator has come; D the new list -/
def LpC (J : It) (g : TG) (tt : TT) (te : TE) (_ : Seal g) (_ : Seal tt) (_ : Seal te) (vs : List Nat) (σw : L2.St) (D : Addr) (H1 : Hp) (Q : VK) (_ : Seal Q) : Prop := ∃ W : Nat → Nat → Hp → Prop, (∃ m, W 0 m (upd H1 D (.lst []))) ∧ ∀ i m H, W i m H →
  (J.stop i H ∧ Q (.ref D) H) ∨ (J.go i H ∧ ∃ Nx : Hp → Prop, (∀ H', Nx H' → ∃ m', m' < m ∧ W (i + 1) m' H') ∧ ∀ x H', J.yld i H x H' → g x σw H' fun σ2 H2 => wipe σ2 vs = σw ∧ tt σ2 H2 fun b H3 =>
    if b = true then te σ2 H3 fun y H4 => ∃ acc, H4 D = some (.lst acc) ∧ acc.length < sizeLine ∧ Nx (upd H4 D (.lst (acc ++ [y]))) else Nx H3)
theorem w_lc {wi : TI} {vs : List Nat} : tLc wi g c te vs σ H Q = wi σ H fun J H1 => ∀ D, H1 D = none → LpC J g c te .mk .mk .mk vs (wipe σ vs) D H1 Q .mk := rfl
theorem w_wipe0 : wipe σ [] = σ := rfl
theorem w_wipe {v : Nat} {vs : List Nat} : wipe σ (v :: vs) = (wipe σ vs).set v none := rfl
/-- a comprehension by any walk: R what holds of the heap ahead of turn i besides the new list, acc what that list holds then -/
theorem lpc_it {J : It} {n : Nat} {G : Hp → Prop} {Y : Nat → Hp → V → Hp → Prop} (w : Walk J n G Y) {vs : List Nat} {D : Addr} {H1 : Hp} {σw : L2.St} (hw : σw = wipe σw vs) (hD : H1 D = none) (R : Nat → Hp → Prop) (acc : Nat → List V) (hacc : ∀ i, i ≤ n → (acc i).length ≤ i) (hn : n ≤ 16777216) (h0 : acc 0 = [])
    (hR0 : R 0 (upd H1 D (.lst []))) (hG : ∀ i H, i ≤ n → R i H → G H)
    (hs : ∀ i x H H' (N : VK) (M : Hp → Prop), i < n → R i H → H D = some (.lst (acc i)) → Y i H x H' →
      (∀ y H4, H4 D = some (.lst (acc i)) → acc (i + 1) = acc i ++ [y] → R (i + 1) (upd H4 D (.lst (acc (i + 1)))) → N y H4) → (∀ H4, H4 D = some (.lst (acc i)) → acc (i + 1) = acc i → R (i + 1) H4 → M H4) →
      g x σw H' fun σ2 H2 => wipe σ2 vs = σw ∧ c σ2 H2 fun b H3 => if b = true then te σ2 H3 N else M H3)
    (hd : ∀ H, R n H → H D = some (.lst (acc n)) → Q (.ref D) H) : LpC J g c te .mk .mk .mk vs σw D H1 Q .mk := by
  obtain ⟨σ0, h00⟩ : ∃ σ0, σw = wipe σ0 vs := ⟨σw, hw⟩
  clear hw
  subst h00
  refine lc_it w (fun i H => i ≤ n ∧ R i H ∧ H D = some (.lst (acc i))) ⟨Nat.zero_le _, hR0, by rw [upd_same, h0]⟩ (fun i H hi p => hG i H hi p.2.1) ?_ (fun H p => hd H p.2.1 p.2.2)
  rintro i x H H' hi ⟨_, p1, p2⟩ y
  refine hs i x H H' _ _ hi p1 p2 y (fun y H4 e1 e2 e3 => ⟨acc i, e1, ?_, by omega, ?_, ?_⟩) (fun H4 e1 e2 e3 => ⟨by omega, e3, by rw [e2]; exact e1⟩)
  · have := hacc i (by omega)
    show _ < 2 ^ 24
    omega
  · rw [← e2]
    exact e3
  · rw [e2]
    exact upd_same
end
/-- a new object: the heap behind it by a letter -/
theorem w_new {H : Hp} {o : HO} {R : V → Hp → Prop} (h : ∀ p H', H p = none → Same H H' → H' p = some o → R (.ref p) H') : ∀ p, H p = none → R (.ref p) (upd H p o) := fun p hp => h p _ hp (sm_new hp) upd_same
/-- an object changed: the heap behind it by a letter -/
theorem w_put {H : Hp} {p : Addr} {o : HO} {R : Hp → Prop} (h : ∀ H', H' p = some o → (∀ q, q ≠ p → H' q = H q) → R H') : R (upd H p o) := h _ upd_same fun _ n => upd_ne n
theorem upd_get {H : Hp} {a b : Addr} {o : HO} : upd H a o b = if b = a then some o else H b := rfl
section
variable {σ : L2.St} {H : Hp} {Q : VK} {c : TT} {te : TE} {g : TG}
theorem take_fm {α β : Type} (f : α → Option β) {items : List α} {i : Nat} {a : α} (h : items[i]? = some a) : (items.take (i + 1)).filterMap f = (items.take i).filterMap f ++ (f a).toList := by
  rw [List.take_add_one, h, List.filterMap_append]
  cases e : f a <;> simp [e]
/-- a comprehension whose items are told by f (none: left out) -/
theorem lpc_gen {α : Type} {J : It} {G : Hp → Prop} {items : List α} {emb : α → V} (w : Walk J items.length G (fun i H x H' => H' = H ∧ ∃ a, items[i]? = some a ∧ x = emb a)) {vs : List Nat} {D : Addr} {H1 : Hp} {σw : L2.St} (hw : σw = wipe σw vs) (hD : H1 D = none) (hn : items.length ≤ 16777216)
    (f : α → Option V) (R : Hp → Prop) (hR0 : R H1) (hRD : ∀ H o, R H → R (upd H D o)) (hG : ∀ H, R H → G H)
    (hs : ∀ a H (N : VK) (M : Hp → Prop), a ∈ items → R H → (∃ acc, H D = some (.lst acc) ∧ (∀ v H4, f a = some v → R H4 → H4 D = some (.lst acc) → N v H4) ∧ (∀ H4, f a = none → R H4 → H4 D = some (.lst acc) → M H4)) →
      g (emb a) σw H fun σ2 H2 => wipe σ2 vs = σw ∧ c σ2 H2 fun b H3 => if b = true then te σ2 H3 N else M H3)
    (hd : ∀ H, R H → H D = some (.lst (items.filterMap f)) → Q (.ref D) H) : LpC J g c te .mk .mk .mk vs σw D H1 Q .mk := by
  refine lpc_it w hw hD (fun _ H => R H) (fun i => (items.take i).filterMap f) (fun i hi => ?_) hn rfl (hRD _ _ hR0) (fun i H hi p => hG H p) ?_ (fun H p q => hd H p (by rw [q, List.take_length]))
  · exact Nat.le_trans (List.length_filterMap_le _ _) (by rw [List.length_take]; omega)
  · rintro i x H H' N M hi p q ⟨rfl, a, ha, rfl⟩ hN hM
    refine hs a H' N M (List.mem_of_getElem? ha) p ⟨_, q, fun v H4 e1 e2 e3 => hN v H4 e3 ?_ (hRD _ _ e2), fun H4 e1 e2 e3 => hM H4 e3 ?_ e2⟩
    · rw [take_fm f ha, e1]
      rfl
    · rw [take_fm f ha, e1]
      simp
theorem walkS (l : List Nat) : Walk (Its (sL l)) l.length (fun _ => True) (fun i H x H' => H' = H ∧ ∃ a, l[i]? = some a ∧ x = V.str (sL [a])) := by
  have w := walk_str (z := sL l)
  have e : (sL l).cps.size = l.length := by simp
  rw [e] at w
  refine w.mono (fun _ h => h) fun i H x H' hi _ y => ?_
  obtain ⟨h1, a, h2, h3⟩ := y
  exact ⟨h1, a, by simpa using h2, h3⟩
theorem walkR (lo : Int) (n : Nat) : Walk (Itr lo n) (List.range n).length (fun _ => True) (fun i H x H' => H' = H ∧ ∃ a, (List.range n)[i]? = some a ∧ x = V.int (lo + a)) := by
  have w := walk_range (lo := lo) (n := n)
  rw [List.length_range]
  refine w.mono (fun _ h => h) fun i H x H' hi _ y => ?_
  exact ⟨y.1, i, by simp [hi], y.2⟩
theorem walkL {K : PySem.W.Frag} {a : Addr} (xs : List V) : Walk (Itl K a) xs.length (fun H => H a = some (.lst xs)) (fun i H x H' => H' = H ∧ ∃ b, xs[i]? = some b ∧ x = b) := by
  refine (walk_list (K := K) (a := a) (xs := xs)).mono (fun H h => SqL.of h) fun i H x H' hi _ y => ?_
  exact ⟨y.1, x, y.2, rfl⟩
end

/-! ### the readings by values, case by case -/
section
variable {H : Hp} {Q : VK} {p q : Addr} {i j : Int} {a b z : Str} {x y v : V} {k m : Bool}
theorem f_add1 : rAddF (.int i) (.int j) H Q = Q (.int (i + j)) H := rfl
theorem f_add2 : rAddF (.str a) (.str b) H Q = (a.length + b.length ≤ 16777216 ∧ Q (.str (a ++ b)) H) := rfl
theorem f_add3 : rAddF (.ref p) (.ref q) H Q = addO (H p) (H q) H Q := rfl
theorem f_addO {xs ys : List V} : addO (some (.lst xs)) (some (.lst ys)) H Q = (xs.length + ys.length ≤ 16777216 ∧ New H (.lst (xs ++ ys)) Q .mk) := rfl
theorem f_iadd1 : rIaddF (.int i) (.int j) H Q = Q (.int (i + j)) H := rfl
theorem f_iadd2 : rIaddF (.str a) (.str b) H Q = (a.length + b.length ≤ 16777216 ∧ Q (.str (a ++ b)) H) := rfl
theorem f_sub : rSubF (.int i) (.int j) H Q = Q (.int (i - j)) H := rfl
theorem f_mul1 : rMulF (.int i) (.int j) H Q = (CMul i j ∧ Q (.int (i * j)) H) := rfl
theorem f_mul2 : rMulF (.str a) (.int j) H Q = (0 ≤ j ∧ a.length * j.toNat ≤ 16777216 ∧ j ≤ 16777216 ∧ Q (.str (sL (repL (tl a) j.toNat))) H) := rfl
theorem f_mul3 : rMulF (.ref p) (.int j) H Q = mulO (H p) j H Q := rfl
theorem f_mulO {xs : List V} : mulO (some (.lst xs)) j H Q = (-(2 ^ 63) ≤ j ∧ j < 2 ^ 63 ∧ xs.length * j.toNat ≤ 16777216 ∧ New H (.lst (List.replicate j.toNat xs).flatten) Q .mk) := rfl
theorem f_fdiv : rFdivF (.int i) (.int j) H Q = (CDiv i j ∧ Q (.int (i / j)) H) := rfl
theorem f_mod : rModF (.int i) (.int j) H Q = (0 < j ∧ Q (.int (i % j)) H) := rfl
theorem f_pow : rPowF (.int i) (.int j) H Q = (CPow i j ∧ Q (.int (i ^ j.toNat)) H) := rfl
theorem f_lt : rLtF (.int i) (.int j) H Q = Q (.bl (decide (i < j))) H := rfl
theorem f_le : rLeF (.int i) (.int j) H Q = Q (.bl (decide (i ≤ j))) H := rfl
theorem f_gt : rGtF (.int i) (.int j) H Q = Q (.bl (decide (j < i))) H := rfl
theorem f_ge : rGeF (.int i) (.int j) H Q = Q (.bl (decide (j ≤ i))) H := rfl
theorem f_eq1 : rEqF (.int i) (.int j) H Q = Q (.bl (decide (i = j))) H := rfl
theorem f_eq2 : rEqF (.str a) (.str b) H Q = Q (.bl (decide (a = b))) H := rfl
theorem f_eq3 : rEqF (.bl k) (.bl m) H Q = Q (.bl (decide (k = m))) H := rfl
theorem f_eq4 : rEqF .non .non H Q = Q (.bl true) H := rfl
theorem f_eq5 : rEqF .non (.int i) H Q = Q (.bl false) H := rfl
theorem f_eq6 : rEqF .non (.str a) H Q = Q (.bl false) H := rfl
theorem f_eq7 : rEqF (.int i) (.str a) H Q = Q (.bl false) H := rfl
theorem f_eq8 : rEqF (.str a) (.int i) H Q = Q (.bl false) H := rfl
theorem f_eq9 : rEqF (.int i) .non H Q = Q (.bl false) H := rfl
theorem f_eq10 : rEqF (.str a) .non H Q = Q (.bl false) H := rfl
theorem f_ne1 : rNeF (.int i) (.int j) H Q = Q (.bl (!decide (i = j))) H := by simp [rNeF, rEqF]
theorem f_ne2 : rNeF (.str a) (.str b) H Q = Q (.bl (!decide (a = b))) H := by simp [rNeF, rEqF]
theorem f_ne3 : rNeF (.bl k) (.bl m) H Q = Q (.bl (!decide (k = m))) H := by simp [rNeF, rEqF]
theorem f_ne4 : rNeF .non .non H Q = Q (.bl false) H := by simp [rNeF, rEqF]
theorem f_ne5 : rNeF .non (.int i) H Q = Q (.bl true) H := by simp [rNeF, rEqF]
theorem f_ne6 : rNeF .non (.str a) H Q = Q (.bl true) H := by simp [rNeF, rEqF]
theorem f_in {n : Nat} : rInF (.str (sL [n])) (.str z) H Q = Q (.bl (decide (n ∈ z.cps.toList))) H := by
  unfold rInF
  simp
theorem f_notIn {n : Nat} : rNotInF (.str (sL [n])) (.str z) H Q = Q (.bl (!decide (n ∈ z.cps.toList))) H := by
  unfold rNotInF
  simp
theorem f_ix1 : rIxF (.ref p) (.int i) H Q = atO (H p) i H Q := rfl
theorem f_ix2 : rIxF (.str z) (.int i) H Q = (z.length ≤ 16777216 ∧ (match atI z.cps.toList i with | some c => Q (.str (sL [c])) H | none => False)) := rfl
theorem f_at1 {xs : List V} : atO (some (.lst xs)) i H Q = (match atI xs i with | some v => Q v H | none => False) := rfl
theorem f_at2 {xs : List V} : atO (some (.tup xs)) i H Q = (match atI xs i with | some v => Q v H | none => False) := rfl
theorem f_sl1 {lo hi : Option Int} : rSlF (.ref p) lo hi H Q = slO (H p) lo hi H Q := rfl
theorem f_slO {xs : List V} {lo hi : Option Int} : slO (some (.lst xs)) lo hi H Q = New H (.lst (cutV xs lo hi)) Q .mk := rfl
theorem f_sl2 {lo hi : Option Int} : rSlF (.str z) lo hi H Q = (z.length ≤ 16777216 ∧ Q (.str (cutS z lo hi)) H) := rfl
def setO (o : Option HO) (p : Addr) (i : Int) (v : V) (H : Hp) (R : Hp → Prop) : Prop := match o with
  | some (.lst xs) => (match ixN xs.length i with | some j => R (upd H p (.lst (xs.set j v))) | none => False)
  | _ => False
theorem f_set {R : Hp → Prop} : rSetF (.ref p) (.int i) v H R = setO (H p) p i v H R := rfl
theorem f_setO {xs : List V} {R : Hp → Prop} : setO (some (.lst xs)) p i v H R = (match ixN xs.length i with | some j => R (upd H p (.lst (xs.set j v))) | none => False) := rfl
theorem f_len1 : rLenF [.str z] H Q = (z.length ≤ 16777216 ∧ Q (.int (z.length : Int)) H) := rfl
theorem f_len2 : rLenF [.ref p] H Q = lenO (H p) H Q := rfl
theorem f_lenO1 {xs : List V} : lenO (some (.lst xs)) H Q = Q (.int (xs.length : Int)) H := rfl
theorem f_lenO2 {xs : List V} : lenO (some (.tup xs)) H Q = Q (.int (xs.length : Int)) H := rfl
theorem f_abs : rAbsF [.int i] H Q = Q (.int (if i < 0 then -i else i)) H := rfl
theorem f_max1 : rMaxF [.int i, .int j] H Q = Q (.int (if j > i then j else i)) H := rfl
theorem f_max2 : rMaxF [.ref p] H Q = maxO (H p) H Q := rfl
theorem f_min1 : rMinF [.int i, .int j] H Q = Q (.int (if j < i then j else i)) H := rfl
theorem f_min2 : rMinF [.ref p] H Q = minO (H p) H Q := rfl
theorem f_maxO {ns : List Int} : maxO (some (.lst (ns.map V.int))) H Q = (0 < ns.length ∧ ∀ m, m ∈ ns → (∀ y, y ∈ ns → y ≤ m) → Q (.int m) H) := by
  unfold maxO
  simp only [asInts_map]
theorem f_minO {ns : List Int} : minO (some (.lst (ns.map V.int))) H Q = (0 < ns.length ∧ ∀ m, m ∈ ns → (∀ y, y ∈ ns → m ≤ y) → Q (.int m) H) := by
  unfold minO
  simp only [asInts_map]
theorem f_int1 : rIntF [.int i] H Q = Q (.int i) H := rfl
theorem f_int2 : rIntF [.bl k] H Q = Q (.int (if k then 1 else 0)) H := rfl
theorem f_int3 : rIntF [.str a] H Q = (match PySem.intText? a with | some n => a.length ≤ 640 ∧ Q (.int n) H | none => False) := rfl
theorem f_str : rStrF [.int i] H Q = (i.natAbs.log2 < 1920 ∧ Q (.str (toString i)) H) := rfl
theorem f_list : rListF [.ref p] H Q = listO (H p) H Q := rfl
theorem f_listO1 {xs : List V} : listO (some (.lst xs)) H Q = New H (.lst xs) Q .mk := rfl
theorem f_listO2 {xs : List V} : listO (some (.tup xs)) H Q = New H (.lst xs) Q .mk := rfl
theorem f_tup : rTupF [.ref p] H Q = tupO p (H p) H Q := rfl
theorem f_tupO1 {xs : List V} : tupO p (some (.lst xs)) H Q = New H (.tup xs) Q .mk := rfl
theorem f_tupO2 {xs : List V} : tupO p (some (.tup xs)) H Q = Q (.ref p) H := rfl
theorem f_sum : rSumF [.ref p] H Q = sumO (H p) H Q := rfl
theorem f_sumO {ns : List Int} : sumO (some (.lst (ns.map V.int))) H Q = Q (.int ns.sum) H := by
  unfold sumO
  simp only [asInts_map]
theorem f_all : rAllF [.ref p] H Q = allO (H p) H Q := rfl
theorem f_allO {ns : List Bool} : allO (some (.lst (ns.map V.bl))) H Q = Q (.bl (ns.all id)) H := by
  unfold allO
  simp only [asBools_map]
theorem f_isi {T : String} : rIsiF [x, .ty T] H Q = (match tyF x H with | some U => okTy T = true ∧ Q (.bl (subTy U T)) H | none => False) := rfl
def tyO (o : Option HO) : Option String := match o with
  | some (.lst _) => some "list"
  | some (.tup _) => some "tuple"
  | some (.dK _) => some "dict"
  | some (.dT _) => some "dict"
  | _ => none
theorem f_ty1 : tyF .non H = some "NoneType" := rfl
theorem f_ty2 : tyF (.bl k) H = some "bool" := rfl
theorem f_ty3 : tyF (.int i) H = some "int" := rfl
theorem f_ty4 : tyF (.str a) H = some "str" := rfl
theorem f_ty5 : tyF (.ref p) H = tyO (H p) := rfl
theorem f_tyO1 {xs : List V} : tyO (some (.lst xs)) = some "list" := rfl
theorem f_tyO2 {xs : List V} : tyO (some (.tup xs)) = some "tuple" := rfl
def isLO (o : Option HO) : Prop := match o with | some (.lst _) => True | _ => False
theorem f_isL : isL (.ref p) H = isLO (H p) := rfl
theorem f_isLO {xs : List V} : isLO (some (.lst xs)) = True := rfl
def appO (o : Option HO) (l : Addr) (y : V) (H : Hp) (Q : VK) : Prop := match o with | some (.lst xs) => xs.length < 16777216 ∧ Q .non (upd H l (.lst (xs ++ [y]))) | _ => False
theorem f_app : rAppF (.ref p) [y] H Q = appO (H p) p y H Q := rfl
theorem f_appO {xs : List V} : appO (some (.lst xs)) p y H Q = (xs.length < 16777216 ∧ Q .non (upd H p (.lst (xs ++ [y])))) := rfl
def popO (o : Option HO) (l : Addr) (H : Hp) (Q : VK) : Prop := match o with | some (.lst xs) => (match xs[xs.length - 1]? with | some y => Q y (upd H l (.lst xs.dropLast)) | none => False) | _ => False
def popAtO (o : Option HO) (l : Addr) (i : Int) (H : Hp) (Q : VK) : Prop := match o with | some (.lst xs) => 0 ≤ i ∧ (match xs[i.toNat]? with | some y => i < 16777216 ∧ Q y (upd H l (.lst (xs.eraseIdx i.toNat))) | none => False) | _ => False
theorem f_pop1 : rPopF (.ref p) [] H Q = popO (H p) p H Q := rfl
theorem f_pop2 : rPopF (.ref p) [.int i] H Q = popAtO (H p) p i H Q := rfl
theorem f_popO {xs : List V} : popO (some (.lst xs)) p H Q = (match xs[xs.length - 1]? with | some y => Q y (upd H p (.lst xs.dropLast)) | none => False) := rfl
theorem f_popAtO {xs : List V} : popAtO (some (.lst xs)) p i H Q = (0 ≤ i ∧ (match xs[i.toNat]? with | some y => i < 16777216 ∧ Q y (upd H p (.lst (xs.eraseIdx i.toNat))) | none => False)) := rfl
def clearO (o : Option HO) (l : Addr) (H : Hp) (Q : VK) : Prop := match o with | some (.lst _) => Q .non (upd H l (.lst [])) | _ => False
theorem f_clear : rClearF (.ref p) [] H Q = clearO (H p) p H Q := rfl
theorem f_clearO {xs : List V} : clearO (some (.lst xs)) p H Q = Q .non (upd H p (.lst [])) := rfl
def extO (o u : Option HO) (l : Addr) (H : Hp) (Q : VK) : Prop := match o, u with | some (.lst xs), some (.lst zs) => xs.length + zs.length ≤ 16777216 ∧ Q .non (upd H l (.lst (xs ++ zs))) | _, _ => False
theorem f_ext : rExtF (.ref p) [.ref q] H Q = extO (H p) (H q) p H Q := rfl
theorem f_extO {xs zs : List V} : extO (some (.lst xs)) (some (.lst zs)) p H Q = (xs.length + zs.length ≤ 16777216 ∧ Q .non (upd H p (.lst (xs ++ zs)))) := rfl
theorem f_join : rJoinF (.str a) [.ref p] H Q = joinO a (H p) H Q := rfl
theorem f_joinO {ws : List (List Nat)} : joinO a (some (.lst (ws.map fun l => V.str (sL l)))) H Q = ((ws.map (·.length)).sum + ws.length * a.length ≤ 16777216 ∧ Q (.str (sL (TL.joinL (tl a) ws))) H) := by
  unfold joinO
  simp only [asCodes_map]
theorem f_split {n : Nat} : rSplitF (.str a) [.str (sL [n])] H Q = (n < 256 ∧ a.length ≤ 16777214 ∧ New H (.lst ((splitL n (tl a)).map fun l => V.str (sL l))) Q .mk) := by
  unfold rSplitF
  apply propext
  constructor
  · rintro ⟨c, h1, h2⟩
    have e := sL_inj h1
    cases e
    exact h2
  · intro h
    exact ⟨n, rfl, h⟩
theorem tl_s (l : List Nat) : tl (sL l) = l := rfl
theorem cps_s (l : List Nat) : (sL l).cps.toList = l := rfl
end
end CM

/-! trips and their texts, plain -/
namespace CM
open PySem L2
def digB (c : Nat) : Bool := decide (48 ≤ c) && decide (c ≤ 57)
theorem digB_iff {c : Nat} : digB c = true ↔ 48 ≤ c ∧ c ≤ 57 := by simp [digB]
def Trip (l : List Nat) : Prop := l.length ≤ 2000 ∧ ∀ c ∈ l, digB c = true
def tenD : List Nat := [48, 49, 50, 51, 52, 53, 54, 55, 56, 57]
theorem mem_ten {c : Nat} : c ∈ tenD ↔ 48 ≤ c ∧ c ≤ 57 := by
  unfold tenD
  simp only [List.mem_cons, List.not_mem_nil, or_false]
  omega
theorem dec_ten (c : Nat) : decide (c ∈ tenD) = digB c := by
  rw [Bool.eq_iff_iff, decide_eq_true_eq, mem_ten, digB_iff]

/-! ### places from the end -/
theorem at_last {α : Type} (l : List α) : atI l (-1) = l[l.length - 1]? := by
  unfold atI ixN
  by_cases h : l = []
  · subst h
    rfl
  · have h1 : 0 < l.length := List.length_pos_iff.mpr h
    rw [if_neg (by omega), if_pos (by omega)]
    show l[(-1 + (l.length : Int)).toNat]? = _
    congr 1
    omega
theorem at_last2 {α : Type} (l : List α) (h : 2 ≤ l.length) : atI l (-2) = l[l.length - 2]? := by
  unfold atI ixN
  rw [if_neg (by omega), if_pos (by omega)]
  show l[(-2 + (l.length : Int)).toNat]? = _
  congr 1
  omega
theorem at_nat {α : Type} (l : List α) (i : Nat) (h : i < l.length) : atI l (i : Int) = l[i]? := by
  unfold atI ixN
  rw [if_pos (by omega), if_pos (by omega)]
  show l[((i : Nat) : Int).toNat]? = _
  rw [Int.toNat_natCast]
theorem at_head {α : Type} (c : α) (r : List α) : atI (c :: r) 0 = some c := by
  have h := at_nat (c :: r) 0 (by simp)
  exact h
theorem at_int {α : Type} (l : List α) (i : Int) (h0 : 0 ≤ i) (h : i < l.length) : atI l i = l[i.toNat]? := by
  unfold atI ixN
  rw [if_pos h0, if_pos h]
  rfl
theorem at_nn {α : Type} {l : List α} {i : Int} (h : 0 ≤ i) : atI l i = l[i.toNat]? := by
  unfold atI ixN
  rw [if_pos h]
  by_cases h2 : i < l.length
  · rw [if_pos h2]
    rfl
  · rw [if_neg h2, List.getElem?_eq_none (by omega)]
    rfl
theorem ix_nn {n : Nat} {i : Int} (h : 0 ≤ i) (h2 : i < n) : ixN n i = some i.toNat := by
  unfold ixN
  rw [if_pos h, if_pos h2]
theorem cut_m2 (l : List Nat) : cutS (sL l) none (some (-2)) = sL (l.take (l.length - 2)) := by
  unfold cutS
  rw [len_sL]
  have e : HT.sIx l.length l.length (some (-2)) = l.length - 2 := by
    show (if (-2 : Int) < 0 then ((-2 : Int) + (l.length : Int)).toNat else min (-2 : Int).toNat l.length) = _
    rw [if_pos (by decide)]
    omega
  have e0 : HT.sIx l.length 0 none = 0 := rfl
  rw [e, e0]
  rfl
theorem cut_1 (l : List Nat) : cutS (sL l) (some (-1)) none = sL (l.drop (l.length - 1)) := by
  unfold cutS
  rw [len_sL]
  have e : HT.sIx l.length 0 (some (-1)) = l.length - 1 := by
    show (if (-1 : Int) < 0 then ((-1 : Int) + (l.length : Int)).toNat else min (-1 : Int).toNat l.length) = _
    rw [if_pos (by decide)]
    omega
  have e0 : HT.sIx l.length l.length none = l.length := rfl
  rw [e, e0]
  show (⟨((l.drop (l.length - 1)).take (l.length - (l.length - 1))).toArray⟩ : Str) = _
  rw [List.take_of_length_le (by rw [List.length_drop]; omega)]
theorem cut_to (l : List Nat) (n : Nat) : cutS (sL l) none (some (n : Int)) = sL (l.take n) := by
  unfold cutS
  rw [len_sL]
  have e : HT.sIx l.length l.length (some (n : Int)) = min n l.length := by
    show (if (n : Int) < 0 then ((n : Int) + (l.length : Int)).toNat else min (n : Int).toNat l.length) = _
    rw [if_neg (by omega), Int.toNat_natCast]
  have e0 : HT.sIx l.length 0 none = 0 := rfl
  rw [e, e0]
  show (⟨(l.take (min n l.length - 0)).toArray⟩ : Str) = _
  rw [Nat.sub_zero, ← List.take_take, List.take_length]
theorem cut_from (l : List Nat) (n : Nat) : cutS (sL l) (some (n : Int)) none = sL (l.drop n) := by
  unfold cutS
  rw [len_sL]
  have e : HT.sIx l.length 0 (some (n : Int)) = min n l.length := by
    show (if (n : Int) < 0 then ((n : Int) + (l.length : Int)).toNat else min (n : Int).toNat l.length) = _
    rw [if_neg (by omega), Int.toNat_natCast]
  have e0 : HT.sIx l.length l.length none = l.length := rfl
  rw [e, e0]
  show (⟨((l.drop (min n l.length)).take (l.length - min n l.length)).toArray⟩ : Str) = _
  rw [List.take_of_length_le (by rw [List.length_drop]; omega)]
  by_cases h : n ≤ l.length
  · rw [Nat.min_eq_left h]
  · rw [Nat.min_eq_right (by omega), List.drop_length, List.drop_of_length_le (by omega)]
theorem drop_last (l : List Nat) (c : Nat) : (sL (l.drop (l.length - 1)) = sL [c]) ↔ l.getLast? = some c := by
  constructor
  · intro h
    have e := sL_inj h
    rcases List.eq_nil_or_concat l with rfl | ⟨m, d, rfl⟩
    · cases e
    · rw [List.concat_eq_append, List.getLast?_concat]
      rw [List.concat_eq_append, List.length_append, List.length_singleton, Nat.add_sub_cancel, List.drop_left] at e
      cases e
      rfl
  · intro h
    rcases List.eq_nil_or_concat l with rfl | ⟨m, d, rfl⟩
    · cases h
    · rw [List.concat_eq_append, List.getLast?_concat] at h
      cases h
      rw [List.concat_eq_append, List.length_append, List.length_singleton, Nat.add_sub_cancel, List.drop_left]

/-! ### numbers in words -/
theorem numL_head {n : Nat} (h : 0 < n) : (TL.numL n).head? ≠ some 48 := by
  induction n using Nat.strongRecOn with
  | _ n ih =>
    by_cases h1 : n < 10
    · rw [TL.numL_lt h1]
      intro e
      have : 48 + n = 48 := Option.some.inj e
      omega
    · rw [TL.numL_step (by omega)]
      have e : (TL.numL (n / 10) ++ [48 + n % 10]).head? = (TL.numL (n / 10)).head? := by
        rw [List.head?_append]
        cases hh : TL.numL (n / 10) with
        | nil => exact absurd hh (TL.numL_ne _)
        | cons a r => rfl
      rw [e]
      exact ih (n / 10) (by omega) (by omega)
def okNum (w : List Nat) (len : Nat) : Bool := decide (1 ≤ w.length) && decide (w.length ≤ len) && w.all digB && !decide (w.head? = some 48)
def numberIn (w : List Nat) (most : Nat) : Nat := if okNum w (TL.numL most).length = true then (if NumText.digitsVal w ≤ most then NumText.digitsVal w else 0) else 0
theorem len2000 : (TL.numL 2000).length = 4 := by decide +kernel
theorem allDig_num (n : Nat) : (TL.numL n).all digB = true := by
  rw [List.all_eq_true]
  intro c hc
  exact digB_iff.mpr (TL.numL_digits n c hc)
theorem numberIn_num {n : Nat} (h1 : 1 ≤ n) (h2 : n ≤ 2000) : numberIn (TL.numL n) 2000 = n := by
  unfold numberIn
  have hl : 1 ≤ (TL.numL n).length := List.length_pos_iff.mpr (TL.numL_ne n)
  have ho : okNum (TL.numL n) (TL.numL 2000).length = true := by
    unfold okNum
    rw [len2000, allDig_num, decide_eq_true hl, decide_eq_true (TL.numL_len (k := 4) (by decide) (by omega)), decide_eq_false (numL_head h1)]
    rfl
  rw [if_pos ho, TL.numL_val, if_pos h2]

/-! ### from_text -/
def ftStep (trip w : List Nat) : Option (List Nat) :=
  if numberIn (w.take (w.length - 2)) 2000 = 0 then none else
    match w[w.length - 2]?, w[w.length - 1]? with
    | some x, some c => if x = 120 ∧ digB c = true ∧ trip.getLast? ≠ some c ∧ trip.length + numberIn (w.take (w.length - 2)) 2000 ≤ 2000 then some (trip ++ List.replicate (numberIn (w.take (w.length - 2)) 2000) c) else none
    | _, _ => none
def fromTextL (l : List Nat) : Option (List Nat) := if l = [] then some [] else (splitL 32 l).foldlM ftStep []

/-! ### the stretches of a trip -/
def rst (l : List Nat) (st : List (Nat × Nat × Nat) × Nat) (t : Nat) : List (Nat × Nat × Nat) × Nat :=
  if t = l.length ∨ l[t]? ≠ l[st.2]? then (st.1 ++ [(l.getD st.2 0, st.2, t)], t) else st
def rf (l : List Nat) : Nat → List (Nat × Nat × Nat) × Nat
  | 0 => ([], 0)
  | i + 1 => rst l (rf l i) (i + 1)
def runs (l : List Nat) : List (Nat × Nat × Nat) := (rf l l.length).1
def wordOf (r : Nat × Nat × Nat) : List Nat := TL.numL (r.2.2 - r.2.1) ++ [120, r.1]
def shortL (l : List Nat) : List Nat := TL.joinL [32] ((runs l).map wordOf)

structure RInv (l : List Nat) (i : Nat) (rs : List (Nat × Nat × Nat)) (b : Nat) : Prop where
  le : b ≤ i
  eqs : ∀ j, b ≤ j → j ≤ i → j < l.length → l[j]? = l[b]?
  rd : (rs.map wordOf).foldlM ftStep [] = some (l.take b)
  ne : 0 < b → b < l.length → l[b]? ≠ l[b - 1]?
  cs : ∀ r ∈ rs, r.1 ∈ l ∧ r.2.1 < r.2.2 ∧ r.2.2 ≤ i
  full : 0 < l.length → i = l.length → b = l.length
  few : rs.length ≤ i
theorem getD_of {l : List Nat} {b : Nat} (h : b < l.length) : l[b]? = some (l.getD b 0) := by
  rw [List.getD_eq_getElem?_getD, List.getElem?_eq_getElem h]
  rfl
theorem word_step {l : List Nat} (hT : Trip l) {b t : Nat} (hb : b < t) (ht : t ≤ l.length) (heq : ∀ j, b ≤ j → j < t → l[j]? = l[b]?) (hne : 0 < b → l[b]? ≠ l[b - 1]?) :
    ftStep (l.take b) (wordOf (l.getD b 0, b, t)) = some (l.take t) := by
  have hbl : b < l.length := by omega
  have h2 := hT.1
  have e1 : (wordOf (l.getD b 0, b, t)).length = (TL.numL (t - b)).length + 2 := by
    unfold wordOf
    rw [List.length_append]
    rfl
  have e2 : (wordOf (l.getD b 0, b, t)).take ((wordOf (l.getD b 0, b, t)).length - 2) = TL.numL (t - b) := by
    rw [e1]
    unfold wordOf
    rw [Nat.add_sub_cancel, List.take_left]
  have e3 : (wordOf (l.getD b 0, b, t))[(wordOf (l.getD b 0, b, t)).length - 2]? = some 120 := by
    rw [e1]
    unfold wordOf
    rw [Nat.add_sub_cancel, List.getElem?_append_right (Nat.le_refl _), Nat.sub_self]
    rfl
  have e4 : (wordOf (l.getD b 0, b, t))[(wordOf (l.getD b 0, b, t)).length - 1]? = some (l.getD b 0) := by
    rw [e1]
    show (TL.numL (t - b) ++ [120, l.getD b 0])[_]? = _
    rw [List.getElem?_append_right (by omega), show (TL.numL (t - b)).length + 2 - 1 - (TL.numL (t - b)).length = 1 by omega]
    rfl
  have e5 : numberIn (TL.numL (t - b)) 2000 = t - b := numberIn_num (by omega) (by omega)
  unfold ftStep
  rw [e2, e3, e4, e5, if_neg (by omega)]
  show (if _ then _ else _) = _
  have hc : l[b]? = some (l.getD b 0) := getD_of hbl
  rw [if_pos]
  · congr 1
    apply List.ext_getElem?
    intro j
    by_cases hj : j < b
    · rw [List.getElem?_append_left (by rw [List.length_take]; omega), List.getElem?_take_of_lt hj, List.getElem?_take_of_lt (by omega)]
    · rw [List.getElem?_append_right (by rw [List.length_take]; omega), List.length_take, Nat.min_eq_left (by omega), List.getElem?_replicate]
      by_cases hj2 : j < t
      · rw [if_pos (by omega), List.getElem?_take_of_lt hj2, heq j (by omega) hj2, hc]
      · rw [if_neg (by omega), List.getElem?_eq_none (by rw [List.length_take]; omega)]
  · refine ⟨rfl, hT.2 _ ?_, ?_, ?_⟩
    · exact List.mem_of_getElem? hc
    · intro h
      by_cases h0 : b = 0
      · subst h0
        cases h
      · rw [List.getLast?_eq_getElem?, List.length_take, Nat.min_eq_left (by omega), List.getElem?_take_of_lt (by omega)] at h
        exact hne (by omega) (hc.trans h.symm)
    · rw [List.length_take]
      omega
theorem rf_inv {l : List Nat} (hT : Trip l) : ∀ i, i ≤ l.length → RInv l i (rf l i).1 (rf l i).2
  | 0, _ => ⟨Nat.le_refl _, fun j h1 h2 _ => by
      have : j = 0 := Nat.le_zero.mp h2
      subst this
      rfl, rfl, fun h => absurd h (Nat.lt_irrefl 0), fun r hr => (by cases hr), fun h1 h2 => h2, Nat.le_refl _⟩
  | i + 1, hi => by
    have I := rf_inv hT i (by omega)
    show RInv l (i + 1) (rst l (rf l i) (i + 1)).1 (rst l (rf l i) (i + 1)).2
    generalize e : rf l i = st at I
    obtain ⟨rs, b⟩ := st
    have hb : b ≤ i := I.le
    unfold rst
    by_cases hc : i + 1 = l.length ∨ l[i + 1]? ≠ l[b]?
    · rw [if_pos hc]
      have hbl : b < l.length := by omega
      refine ⟨Nat.le_refl _, fun j h1 h2 _ => by rw [show j = i + 1 by omega], ?_, fun _ h2 => ?_, ?_, fun _ h => h, ?_⟩
      · rw [List.map_append, List.foldlM_append, I.rd]
        show (some (l.take b) >>= fun s => List.foldlM ftStep s [wordOf (l.getD b 0, b, i + 1)]) = _
        show (ftStep (l.take b) (wordOf (l.getD b 0, b, i + 1)) >>= fun s => pure s) = _
        rw [word_step hT (by omega) hi (fun j h1 h2 => I.eqs j h1 (by omega) (by omega)) (fun h0 => I.ne h0 hbl)]
        rfl
      · have h3 : l[i + 1]? ≠ l[b]? := hc.resolve_left (by intro h; omega)
        intro h4
        apply h3
        rw [h4]
        exact I.eqs i hb (Nat.le_refl _) (by omega)
      · intro r hr
        rcases List.mem_append.mp hr with h | h
        · obtain ⟨a1, a2, a3⟩ := I.cs r h
          exact ⟨a1, a2, by omega⟩
        · rw [List.mem_singleton.mp h]
          exact ⟨List.mem_of_getElem? (getD_of hbl), by show b < i + 1; omega, Nat.le_refl _⟩
      · have := I.few
        show (rs ++ [_]).length ≤ i + 1
        rw [List.length_append, List.length_singleton]
        have h5 : rs.length ≤ i := I.few
        omega
    · rw [if_neg hc]
      have h1 : i + 1 ≠ l.length := fun h => hc (.inl h)
      have h2 : l[i + 1]? = l[b]? := by
        apply Decidable.byContradiction
        intro h
        exact hc (.inr h)
      refine ⟨Nat.le_succ_of_le hb, fun j g1 g2 g3 => ?_, I.rd, I.ne, fun r hr => ?_, fun _ h => absurd h h1, Nat.le_succ_of_le I.few⟩
      · by_cases hj : j = i + 1
        · subst hj
          exact h2
        · exact I.eqs j g1 (by omega) g3
      · obtain ⟨a1, a2, a3⟩ := I.cs r hr
        exact ⟨a1, a2, by omega⟩
theorem word_free {r : Nat × Nat × Nat} (h : digB r.1 = true) : 32 ∉ wordOf r := by
  unfold wordOf
  intro hm
  rcases List.mem_append.mp hm with hm | hm
  · exact TL.numL_free (.inl (by decide)) hm
  · have := digB_iff.mp h
    simp only [List.mem_cons, List.not_mem_nil, or_false] at hm
    omega
theorem word_len {r : Nat × Nat × Nat} (h : r.2.2 ≤ 2000) : (wordOf r).length ≤ 6 := by
  unfold wordOf
  rw [List.length_append]
  have := TL.numL_len (n := r.2.2 - r.2.1) (k := 4) (by decide) (by omega)
  simp only [List.length_cons, List.length_nil]
  omega
theorem word_ne (r : Nat × Nat × Nat) : wordOf r ≠ [] := by
  unfold wordOf
  simp
theorem runs_ne {l : List Nat} (hT : Trip l) (h : l ≠ []) : runs l ≠ [] := by
  intro e
  have I := rf_inv hT l.length (Nat.le_refl _)
  have hp : 0 < l.length := List.length_pos_iff.mpr h
  have h1 := I.rd
  have h2 := I.full hp rfl
  unfold runs at e
  rw [e, h2] at h1
  have h3 : l.take l.length = [] := (Option.some.inj h1).symm
  rw [List.take_length] at h3
  exact h h3
theorem join_ne {ws : List (List Nat)} (h : ws ≠ []) (h2 : ∀ w ∈ ws, w ≠ []) : TL.joinL [32] ws ≠ [] := by
  match ws, h with
  | [p], _ => exact h2 p (List.mem_singleton.mpr rfl)
  | p :: q :: r, _ =>
    intro e
    have e2 : p ++ ([32] ++ TL.joinL [32] (q :: r)) = [] := e
    exact h2 p (List.mem_cons_self ..) (List.append_eq_nil_iff.mp e2).1
/-- a trip's short text is read back -/
theorem read_short {l : List Nat} (hT : Trip l) : fromTextL (shortL l) = some l := by
  by_cases h : l = []
  · subst h
    rfl
  · have hr := runs_ne hT h
    have I := rf_inv hT l.length (Nat.le_refl _)
    have hm : (runs l).map wordOf ≠ [] := fun e => hr (List.map_eq_nil_iff.mp e)
    have hs : shortL l ≠ [] := join_ne hm fun w hw => by
      obtain ⟨r, _, rfl⟩ := List.mem_map.mp hw
      exact word_ne r
    unfold fromTextL
    rw [if_neg hs]
    unfold splitL shortL
    rw [TL.spl_join hm fun p hp => ?_]
    · have h1 := I.rd
      rw [I.full (List.length_pos_iff.mpr h) rfl, List.take_length] at h1
      exact h1
    · obtain ⟨r, hr, rfl⟩ := List.mem_map.mp hp
      exact word_free (hT.2 _ (I.cs r hr).1)
theorem sum_le {α : Type} (f : α → Nat) (k : Nat) : ∀ l : List α, (∀ a ∈ l, f a ≤ k) → (l.map f).sum ≤ l.length * k
  | [], _ => by simp
  | a :: r, h => by
    have h1 := h a (List.mem_cons_self ..)
    have h2 := sum_le f k r fun b hb => h b (List.mem_cons_of_mem _ hb)
    rw [List.map_cons, List.sum_cons, List.length_cons, Nat.add_mul]
    omega
theorem join_len (s : List Nat) : ∀ ws : List (List Nat), (TL.joinL s ws).length ≤ (ws.map (·.length)).sum + ws.length * s.length
  | [] => by simp [TL.joinL]
  | [p] => by
    show p.length ≤ _
    simp
  | p :: q :: r => by
    have h := join_len s (q :: r)
    show (p ++ (s ++ TL.joinL s (q :: r))).length ≤ _
    rw [List.length_append, List.length_append]
    simp only [List.map_cons, List.sum_cons, List.length_cons] at h ⊢
    have e : (r.length + 1 + 1) * s.length = (r.length + 1) * s.length + s.length := by rw [Nat.add_mul (r.length + 1) 1, Nat.one_mul]
    omega
end CM

namespace CM
open PySem PySem.Spec PyProof.Rows L2
/-! ### a tuple taken apart -/
def gtO (o : Option HO) (n : Nat) (t : TGs) (σ : L2.St) (H : Hp) (R : L2.St → Hp → Prop) : Prop := match o with
  | some (.tup xs) => xs.length = n ∧ t xs σ H R
  | _ => False
def gTupF (n : Nat) (t : TGs) : TG := fun v σ H R => match v with
  | .ref a => gtO (H a) n t σ H R
  | _ => False
theorem w_gtup {n : Nat} {t : TGs} {a : Addr} {σ : L2.St} {H : Hp} {R : L2.St → Hp → Prop} : gTupF n t (.ref a) σ H R = gtO (H a) n t σ H R := rfl
theorem w_gtO {n : Nat} {t : TGs} {xs : List V} {σ : L2.St} {H : Hp} {R : L2.St → Hp → Prop} : gtO (some (.tup xs)) n t σ H R = (xs.length = n ∧ t xs σ H R) := rfl
theorem gtup_of {K : PySem.W.Frag} {n : Nat} {t : TGs} {v : V} {σ : L2.St} {H : Hp} {R : L2.St → Hp → Prop} (h : gTupF n t v σ H R) : gTup K n t v σ H R := by
  unfold gTupF at h
  split at h
  · unfold gtO at h
    split at h
    · rename_i h0
      exact ⟨_, _, rfl, SqT.of h0, h⟩
    · exact h.elim
  · exact h.elim
theorem pg_tupF {X : Cx} {es : List Expr} {k : Nat} {pos : Pos} {t : TGs} {n : Nat} (hc : X.calm = true) (h : PGs X es t) (hn : (assignEach es X.env).length = n := by rfl) (hst : (assignEach es X.env).findIdx? (·.1) = none := by rfl) :
    PG X (.Tuple es k pos) (gTupF n t) := ⟨fun pins s σ H v u Q I r q => (pg_tup hc h hn hst).run pins s σ H v u Q I r (gtup_of q)⟩
/-! ### lists out of comprehensions -/
theorem fm_bl {α : Type} (f : α → Bool) (l : List α) : l.filterMap (fun a => some (V.bl (f a))) = (l.map f).map V.bl := by
  rw [List.filterMap_eq_map', List.map_map]
  rfl
theorem fm_int {α : Type} (f : α → Int) (l : List α) : l.filterMap (fun a => some (V.int (f a))) = (l.map f).map V.int := by
  rw [List.filterMap_eq_map', List.map_map]
  rfl
theorem fm_str {α : Type} (f : α → List Nat) (l : List α) : l.filterMap (fun a => some (V.str (sL (f a)))) = (l.map f).map fun w => V.str (sL w) := by
  rw [List.filterMap_eq_map', List.map_map]
  rfl
theorem fm_v {α : Type} (f : α → V) (l : List α) : l.filterMap (fun a => some (f a)) = l.map f := by rw [List.filterMap_eq_map']
/-! ### a list of tuples -/
def TupAt {α : Type} (H : Hp) (f : α → List V) : List V → List α → Prop
  | [], [] => True
  | x :: xs, r :: rs => (∃ a, x = .ref a ∧ H a = some (.tup (f r))) ∧ TupAt H f xs rs
  | _, _ => False
section
variable {α : Type} {H H' : Hp} {f : α → List V}
theorem TupAt.mono (h : ∀ a xs, H a = some (.tup xs) → H' a = some (.tup xs)) : ∀ {xs : List V} {rs : List α}, TupAt H f xs rs → TupAt H' f xs rs
  | [], [], _ => trivial
  | x :: xs, r :: rs, ⟨⟨a, e, q⟩, t⟩ => ⟨⟨a, e, h a _ q⟩, TupAt.mono h t⟩
theorem TupAt.snoc {a : Addr} {r : α} (q : H a = some (.tup (f r))) : ∀ {xs : List V} {rs : List α}, TupAt H f xs rs → TupAt H f (xs ++ [.ref a]) (rs ++ [r])
  | [], [], _ => ⟨⟨a, rfl, q⟩, trivial⟩
  | x :: xs, s :: rs, ⟨e, t⟩ => ⟨e, TupAt.snoc q t⟩
theorem TupAt.len : ∀ {xs : List V} {rs : List α}, TupAt H f xs rs → xs.length = rs.length
  | [], [], _ => rfl
  | x :: xs, s :: rs, ⟨e, t⟩ => by rw [List.length_cons, List.length_cons, t.len]
theorem TupAt.get : ∀ {xs : List V} {rs : List α} {i : Nat} {x : V}, TupAt H f xs rs → xs[i]? = some x → ∃ a r, x = .ref a ∧ rs[i]? = some r ∧ H a = some (.tup (f r))
  | x :: xs, s :: rs, 0, y, ⟨⟨a, e, q⟩, t⟩, h => by
    have h : some x = some y := h
    cases h
    exact ⟨a, s, e, rfl, q⟩
  | x :: xs, s :: rs, i + 1, y, ⟨e, t⟩, h => TupAt.get (i := i) t h
  | [], [], i, y, _, h => by cases h
end
theorem same_tup {H H' : Hp} (S : Same H H') : ∀ a xs, H a = some (.tup xs) → H' a = some (.tup xs) := fun a xs h => S a _ h
/-! ### a comprehension over a list of tuples (any items that come with something known) -/
theorem walkQ {K : PySem.W.Frag} {a : Addr} {xs : List V} {α : Type} {rs : List α} {H0 : Hp} {f : α → List V} (T : TupAt H0 f xs rs) :
    Walk (Itl K a) (rs.zip xs).length (fun H => H a = some (.lst xs)) (fun i H x H' => H' = H ∧ ∃ b, (rs.zip xs)[i]? = some b ∧ x = b.2) := by
  have e : (rs.zip xs).length = xs.length := by rw [List.length_zip, T.len, Nat.min_self]
  rw [e]
  refine (walk_list (K := K) (a := a) (xs := xs)).mono (fun H h => SqL.of h) fun i H x H' hi _ y => ?_
  obtain ⟨h1, h2⟩ := y
  obtain ⟨b, r, h3, h4, h5⟩ := T.get h2
  exact ⟨h1, (r, x), by rw [List.getElem?_zip_eq_some]; exact ⟨h4, h2⟩, rfl⟩
theorem zip_fm {α β : Type} (g : α → β) : ∀ (rs : List α) (xs : List V), rs.length = xs.length → (rs.zip xs).filterMap (fun b => some (g b.1)) = rs.map g
  | [], _, _ => by simp
  | r :: rs, [], h => by simp at h
  | r :: rs, x :: xs, h => by
    rw [List.zip_cons_cons, List.filterMap_cons]
    show g r :: _ = _
    rw [zip_fm g rs xs (by simpa using h)]
    rfl
theorem TupAt.mem {α : Type} {H : Hp} {f : α → List V} {xs : List V} {rs : List α} (T : TupAt H f xs rs) {b : α × V} (h : b ∈ rs.zip xs) : b.1 ∈ rs ∧ ∃ a, b.2 = .ref a ∧ H a = some (.tup (f b.1)) := by
  obtain ⟨i, hi⟩ := List.mem_iff_getElem?.mp h
  rw [List.getElem?_zip_eq_some] at hi
  obtain ⟨a, r, h3, h4, h5⟩ := T.get hi.2
  rw [h4] at hi
  have e := Option.some.inj hi.1
  rw [← e]
  exact ⟨List.mem_of_getElem? h4, a, h3, h5⟩

theorem lg {i : Int} (h : i.natAbs < 2 ^ 64) : i.natAbs.log2 < 1920 := by
  by_cases h0 : i.natAbs = 0
  · rw [h0]
    decide
  · exact (Nat.log2_lt h0).mpr (Nat.lt_of_lt_of_le h (Nat.pow_le_pow_right (by decide) (by decide)))
/-! ### the bag of draws -/
def Bag (H : Hp) (b sp : Addr) : Prop := sp ≠ b ∧ ∃ (ns : List Int) (i big mix cnt : Int), H b = some (.lst [.ref sp, .int i, .int big, .int mix, .int cnt]) ∧ H sp = some (.lst (ns.map V.int)) ∧ 0 ≤ i ∧ 0 ≤ big
theorem Bag.kp {H H' : Hp} {b sp : Addr} (B : Bag H b sp) (h1 : H' b = H b) (h2 : H' sp = H sp) : Bag H' b sp := by
  obtain ⟨h0, ns, i, big, mix, cnt, a1, a2, a3⟩ := B
  exact ⟨h0, ns, i, big, mix, cnt, by rw [h1]; exact a1, by rw [h2]; exact a2, a3⟩
theorem Bag.same {H H' : Hp} {b sp : Addr} (B : Bag H b sp) (S : Same H H') : Bag H' b sp := by
  obtain ⟨h0, ns, i, big, mix, cnt, a1, a2, a3⟩ := B
  exact ⟨h0, ns, i, big, mix, cnt, S _ _ a1, S _ _ a2, a3⟩
theorem Bag.ne {H : Hp} {b sp l : Addr} (B : Bag H b sp) (h : H l = none) : l ≠ b ∧ l ≠ sp := by
  obtain ⟨h0, ns, i, big, mix, cnt, a1, a2, a3⟩ := B
  exact ⟨(ne_of_none a1 h).symm, (ne_of_none a2 h).symm⟩
theorem Bag.mut {H : Hp} {b sp l : Addr} {o : HO} (B : Bag H b sp) (h1 : l ≠ b) (h2 : l ≠ sp) : Bag (upd H l o) b sp := B.kp (upd_ne h1.symm) (upd_ne h2.symm)

/-! ### the end -/
def sp_law (K : PySem.W.Frag) : Sp := fun vs H Q _ => ∃ (a : Addr) (ns : List Int), vs = [.ref a] ∧ SqL K H a (ns.map V.int) ∧ ∀ H', Q (.bl true) H'
section
variable {K : PySem.W.Frag} {h : Heap} {mg : Str → Option Value}
theorem df_mk {x : Str} {st : Stmt} {ps : List Str} {f : Addr} {oc : Value} {od an : Option Addr} {osl : Array (Option Value)} {kV doc pm cdv ct : Value} (X : K.In h) (G : h.Ns mainGlobals mg) (a : PySem.W.nsIn K mainGlobals x = some (some (.ref f)))
    (l : K.lookup f = some ⟨oc, od, .func (PySem.W.fnOf x x (defArgs st) (defBody st) (defScope st) .none kV doc pm an cdv ct), osl⟩) (c : PySem.W.codeIn K cdv x = true) (k : PySem.W.keepIn K (.ref f) = true)
    (hb : ∀ (kV doc pm : Value) (an : Option Addr) (cdv ct : Value) (us : List Value), us.length = ps.length → bindArgs (PySem.W.fnOf x x (defArgs st) (defBody st) (defScope st) .none kV doc pm an cdv ct) ⟨us, []⟩ = pure (ps.zip us)) : Df K mg x st ps :=
  ⟨f, _, PySem.W.mg_of X G a, fun_mk l c k, (fun_mk (st := st) l c k).binds hb⟩
theorem const_mk {x : Str} {v : Value} {f : Tok → Value} (X : K.In h) (G : h.Ns mainGlobals mg) (a : PySem.W.nsIn K mainGlobals x = some (some v)) (e : ∃ t, v = f t) : ∃ t, mg x = some (f t) := by
  obtain ⟨t, rfl⟩ := e
  exact ⟨t, PySem.W.mg_of X G a⟩
/-- the law's own def -/
structure LawD (K : PySem.W.Frag) (mg : Str → Option Value) (st : Stmt) : Prop where
  df : Df K mg "law" st ["_law_script"]
  ex : ∃ f fd oc od osl, mg "law" = some (.ref f) ∧ K.lookup f = some ⟨oc, od, .func fd, osl⟩ ∧ ∀ (s : Shared) (u : Value), BindsTo s fd ⟨[u], []⟩ [("_law_script", u)]
abbrev DfOf (_ : K.In h) (mg : Str → Option Value) (x : Str) (st : Stmt) (ps : List Str) : Prop := Df K mg x st ps
abbrev LawOf (_ : K.In h) (mg : Str → Option Value) (st : Stmt) : Prop := LawD K mg st
theorem law_mk {st : Stmt} {f : Addr} {oc : Value} {od an : Option Addr} {osl : Array (Option Value)} {kV doc pm cdv ct : Value} (X : K.In h) (G : h.Ns mainGlobals mg) (a : PySem.W.nsIn K mainGlobals "law" = some (some (.ref f)))
    (l : K.lookup f = some ⟨oc, od, .func (PySem.W.fnOf "law" "law" (defArgs st) (defBody st) (defScope st) .none kV doc pm an cdv ct), osl⟩) (c : PySem.W.codeIn K cdv "law" = true) (k : PySem.W.keepIn K (.ref f) = true)
    (hb : ∀ (kV doc pm : Value) (an : Option Addr) (cdv ct : Value) (us : List Value), us.length = (["_law_script"] : List Str).length → bindArgs (PySem.W.fnOf "law" "law" (defArgs st) (defBody st) (defScope st) .none kV doc pm an cdv ct) ⟨us, []⟩ = pure ((["_law_script"] : List Str).zip us)) : LawD K mg st :=
  ⟨df_mk X G a l c k hb, f, _, oc, od, osl, PySem.W.mg_of X G a, l, fun s u => .of_eq (hb _ _ _ _ _ _ [u] rfl)⟩
end
theorem walkF {l : PySem.W.OpenLaw} {q : Program} {loose : List Str} {XP : (Str → Option Value) → Heap → Prop} {YP : World → Heap → Prop} {d : DefRec} {K : Params → PySem.W.Frag} (st : Stmt) (k : Nat) (hn : l.most = some 63) (hdf : d.params.defaults = []) (hr : Room k callerA) (hd : d.name = "law")
    (hY : ∀ (w : World) (h : Heap), YP w h → (K w.params).In h)
    (F : ∀ (w : World) (mg : Str → Option Value) (h : Heap), (K w.params).In h → h.Ns mainGlobals mg → LawD (K w.params) mg st ∧ ∀ base : Heap, (K w.params).In base → base.Ns mainGlobals mg → Fn l.prog w (K w.params) mg base "law" k ["_law_script"] (sp_law (K w.params))) :
    PySem.W.WalkO q loose XP YP l.row.toRowW d [] (fun f vs => PySem.call f vs) := by
  refine L2.walk_of (n := 63) (k := k) (x := "_law_script") (CX := fun _ => CX0) (sp := fun w => sp_law (K w.params)) hn (by decide) hdf hr hY ?_ (fun _ _ a ns hl _ hS => ⟨a, ns, rfl, hS, fun _ => rfl⟩) fun _ _ _ _ _ z => z
  intro w mg fa h X G hm
  obtain ⟨⟨_, f, fd, oc, od, osl, h1, h2, h3⟩, hF⟩ := F w mg h X G
  rw [hd, h1] at hm
  cases hm
  refine ⟨fd, h3, fun base B1 B2 => ?_⟩
  obtain ⟨f', fd', g1, g2, g3, g4, oc', od', osl', g5⟩ := (hF base B1 B2).ex
  rw [h1] at g1
  cases g1
  rw [h2] at g5
  cases g5
  exact g2
end CM

namespace CM
open PySem PySem.Spec PyProof.Rows L2
/-! ### equal data -/
def okD (n : Nat) (d : PyData) : Prop := d.canLay0 = true ∧ d.depth ≤ n
theorem okD.mono {n m : Nat} {d : PyData} (h : okD n d) (k : n ≤ m) : okD m d := ⟨h.1, Nat.le_trans h.2 k⟩
theorem okAll {n : Nat} : ∀ {ds : List PyData}, (∀ d ∈ ds, okD n d) → PyData.canLayAll0 ds = true ∧ PyData.depthAll ds ≤ n
  | [], _ => ⟨by simp [PyData.canLayAll0], by simp [PyData.depthAll]⟩
  | d :: ds, h => by
    have h1 := h d (List.mem_cons_self ..)
    have h2 := okAll (ds := ds) fun e he => h e (List.mem_cons_of_mem _ he)
    refine ⟨?_, ?_⟩
    · simp only [PyData.canLayAll0, h1.1, h2.1, Bool.and_self]
    · simp only [PyData.depthAll]
      exact Nat.max_le.mpr ⟨h1.2, h2.2⟩
theorem ok_int (n : Nat) (i : Int) : okD n (.int i) := ⟨by simp [PyData.canLay0], by simp [PyData.depth]⟩
theorem ok_bool (n : Nat) (i : Bool) : okD n (.bool i) := ⟨by simp [PyData.canLay0], by simp [PyData.depth]⟩
theorem ok_none (n : Nat) : okD n .none := ⟨by simp [PyData.canLay0], by simp [PyData.depth]⟩
theorem ok_list {n : Nat} {ds : List PyData} (h : ∀ d ∈ ds, okD n d) : okD (n + 1) (.list ds) := by
  have h2 := okAll h
  refine ⟨?_, ?_⟩
  · simp only [PyData.canLay0]
    exact h2.1
  · simp only [PyData.depth]
    omega
theorem ok_tup {n : Nat} {ds : List PyData} (h : ∀ d ∈ ds, okD n d) : okD (n + 1) (.tuple ds) := by
  have h2 := okAll h
  refine ⟨?_, ?_⟩
  · simp only [PyData.canLay0]
    exact h2.1
  · simp only [PyData.depth]
    omega
theorem okD.shaped {n : Nat} {d : PyData} (h : okD n d) (hn : n ≤ 64) : SeqAt.shaped d = true := by
  unfold SeqAt.shaped
  rw [h.1, decide_eq_true (Nat.le_trans h.2 hn)]
  rfl
def SD (K : PySem.W.Frag) (neg : Bool) (x y : V) (H : Hp) (Q : VK) (_ : Seal Q) : Prop := ∃ d e, Dp K H x d ∧ Dp K H y e ∧ SeqAt.shaped d = true ∧ SeqAt.shaped e = true ∧ Q (.bl (xor neg (PyData.eqv d e))) H
def rEqX (K : PySem.W.Frag) : R2
  | .ref p, y, H, Q => SD K false (.ref p) y H Q .mk
  | x, .ref q, H, Q => SD K false x (.ref q) H Q .mk
  | x, y, H, Q => rEqF x y H Q
def rNeX (K : PySem.W.Frag) : R2
  | .ref p, y, H, Q => SD K true (.ref p) y H Q .mk
  | x, .ref q, H, Q => SD K true x (.ref q) H Q .mk
  | x, y, H, Q => rNeF x y H Q
section
variable {X : Cx}
theorem op_eqX {K : PySem.W.Frag} (hu : X.A.units + 64 < cLine) (hK : X.K = K := by rfl) : OpR X (compareOp .Eq) (rEqX K) := hK ▸ opImp (L2.OpR.or op_eqF (op_eqD hu)) fun x y H Q h => by
  unfold rEqX at h
  split at h
  · obtain ⟨d, e, h1, h2, h3, h4, h5⟩ := h
    exact .inr ⟨d, e, h1, h2, h3, h4, by simpa using h5⟩
  · obtain ⟨d, e, h1, h2, h3, h4, h5⟩ := h
    exact .inr ⟨d, e, h1, h2, h3, h4, by simpa using h5⟩
  · exact .inl h
theorem op_neX {K : PySem.W.Frag} (hu : X.A.units + 64 < cLine) (hK : X.K = K := by rfl) : OpR X (compareOp .NotEq) (rNeX K) := hK ▸ opImp (L2.OpR.or op_neF (op_neD hu)) fun x y H Q h => by
  unfold rNeX at h
  split at h
  · obtain ⟨d, e, h1, h2, h3, h4, h5⟩ := h
    exact .inr ⟨d, e, h1, h2, h3, h4, by simpa using h5⟩
  · obtain ⟨d, e, h1, h2, h3, h4, h5⟩ := h
    exact .inr ⟨d, e, h1, h2, h3, h4, by simpa using h5⟩
  · exact .inl h
end
section
variable {K : PySem.W.Frag} {H : Hp} {Q : VK} {p q : Addr} {i j : Int} {a b : Str} {x y : V} {k m : Bool}
theorem x_eq1 : rEqX K (.ref p) y H Q = SD K false (.ref p) y H Q .mk := rfl
theorem x_eq2 : rEqX K (.int i) (.ref q) H Q = SD K false (.int i) (.ref q) H Q .mk := rfl
theorem x_eq3 : rEqX K .non (.ref q) H Q = SD K false .non (.ref q) H Q .mk := rfl
theorem x_eq4 : rEqX K (.int i) (.int j) H Q = rEqF (.int i) (.int j) H Q := rfl
theorem x_eq5 : rEqX K (.str a) (.str b) H Q = rEqF (.str a) (.str b) H Q := rfl
theorem x_eq6 : rEqX K (.bl k) (.bl m) H Q = rEqF (.bl k) (.bl m) H Q := rfl
theorem x_eq7 : rEqX K .non .non H Q = rEqF .non .non H Q := rfl
theorem x_eq8 : rEqX K .non (.int i) H Q = rEqF .non (.int i) H Q := rfl
theorem x_eq9 : rEqX K .non (.str a) H Q = rEqF .non (.str a) H Q := rfl
theorem x_eq10 : rEqX K (.int i) .non H Q = rEqF (.int i) .non H Q := rfl
theorem x_eq11 : rEqX K (.str a) .non H Q = rEqF (.str a) .non H Q := rfl
theorem x_eq12 : rEqX K (.int i) (.str a) H Q = rEqF (.int i) (.str a) H Q := rfl
theorem x_eq13 : rEqX K (.str a) (.int i) H Q = rEqF (.str a) (.int i) H Q := rfl
theorem x_ne1 : rNeX K (.ref p) y H Q = SD K true (.ref p) y H Q .mk := rfl
theorem x_ne2 : rNeX K (.int i) (.ref q) H Q = SD K true (.int i) (.ref q) H Q .mk := rfl
theorem x_ne3 : rNeX K .non (.ref q) H Q = SD K true .non (.ref q) H Q .mk := rfl
theorem x_ne4 : rNeX K (.int i) (.int j) H Q = rNeF (.int i) (.int j) H Q := rfl
theorem x_ne5 : rNeX K (.str a) (.str b) H Q = rNeF (.str a) (.str b) H Q := rfl
theorem x_ne6 : rNeX K (.bl k) (.bl m) H Q = rNeF (.bl k) (.bl m) H Q := rfl
theorem x_ne7 : rNeX K .non .non H Q = rNeF .non .non H Q := rfl
theorem x_ne8 : rNeX K .non (.int i) H Q = rNeF .non (.int i) H Q := rfl
theorem x_ne9 : rNeX K .non (.str a) H Q = rNeF .non (.str a) H Q := rfl
/-- two that hold the same data -/
theorem sd_same {neg : Bool} {d : PyData} {n : Nat} (h1 : Dp K H x d) (h2 : Dp K H y d) (ok : okD n d) (hn : n ≤ 64) (q : Q (.bl (!neg)) H) : SD K neg x y H Q .mk := by
  refine ⟨d, d, h1, h2, ok.shaped hn, ok.shaped hn, ?_⟩
  rw [SeqAt.eqv_refl d ok.1]
  cases neg <;> exact q
theorem dpAll_map {α : Type} {f : α → V} {g : α → PyData} : ∀ {l : List α}, (∀ a ∈ l, Dp K H (f a) (g a)) → DpAll K H (l.map f) (l.map g)
  | [], _ => .nil
  | a :: l, h => .cons (h a (List.mem_cons_self ..)) (dpAll_map fun b hb => h b (List.mem_cons_of_mem _ hb))
theorem dp_ints {ns : List Int} (h : H p = some (.lst (ns.map V.int))) : Dp K H (.ref p) (.list (ns.map .int)) := .lst (SqL.of h) (dpAll_map fun a _ => .int a)
theorem ok_ints (ns : List Int) : okD 1 (.list (ns.map .int)) := ok_list fun d hd => by
  obtain ⟨i, _, rfl⟩ := List.mem_map.mp hd
  exact ok_int 0 i
theorem dpAll_tup {α : Type} {f : α → List V} {g : α → List PyData} (hf : ∀ a, DpAll K H (f a) (g a)) : ∀ {xs : List V} {rs : List α}, TupAt H f xs rs → DpAll K H xs (rs.map fun r => .tuple (g r))
  | [], [], _ => .nil
  | x :: xs, r :: rs, ⟨⟨a, e, q⟩, t⟩ => by
    subst e
    exact .cons (.tup (SqT.of q) (hf r)) (dpAll_tup hf t)
end
/-! ### a comprehension that makes tuples -/
section
variable {σ : L2.St} {H : Hp} {Q : VK} {c : TT} {te : TE} {g : TG}
theorem lpc_tup {α β : Type} {J : It} {G : Hp → Prop} {items : List α} {emb : α → V} (w : Walk J items.length G (fun i H x H' => H' = H ∧ ∃ a, items[i]? = some a ∧ x = emb a)) {vs : List Nat} {D : Addr} {H1 : Hp} {σw : L2.St} (hw : σw = wipe σw vs) (hD : H1 D = none) (hn : items.length ≤ 16777216)
    (f : α → Option β) (tp : β → List V) (R : Hp → Prop) (hR0 : R H1) (hRD : ∀ H o, R H → R (upd H D o)) (hG : ∀ H, R H → G H)
    (hs : ∀ a H (N : VK) (M : Hp → Prop), a ∈ items → R H → (∃ acc, H D = some (.lst acc) ∧ (∀ r q H4, f a = some r → R H4 → Same H H4 → H4 q = some (.tup (tp r)) → N (.ref q) H4) ∧ (∀ H4, f a = none → R H4 → Same H H4 → M H4)) →
      g (emb a) σw H fun σ2 H2 => wipe σ2 vs = σw ∧ c σ2 H2 fun b H3 => if b = true then te σ2 H3 N else M H3)
    (hd : ∀ H xs, R H → H D = some (.lst xs) → TupAt H tp xs (items.filterMap f) → Q (.ref D) H) : LpC J g c te .mk .mk .mk vs σw D H1 Q .mk := by
  obtain ⟨σ0, h00⟩ : ∃ σ0, σw = wipe σ0 vs := ⟨σw, hw⟩
  clear hw
  subst h00
  refine lc_it w (fun i H => i ≤ items.length ∧ R H ∧ ∃ xs, H D = some (.lst xs) ∧ TupAt H tp xs ((items.take i).filterMap f)) ⟨Nat.zero_le _, hRD _ _ hR0, [], upd_same, trivial⟩ (fun i H hi p => hG H p.2.1) ?_ (fun H p => ?_)
  · rintro i x H H' hi ⟨_, p1, xs, p2, p3⟩ ⟨rfl, a, ha, rfl⟩
    refine hs a H' _ _ (List.mem_of_getElem? ha) p1 ⟨xs, p2, fun r q H4 e1 e2 e3 e4 => ⟨xs, e3 _ _ p2, ?_, by omega, hRD _ _ e2, xs ++ [.ref q], upd_same, ?_⟩, fun H4 e1 e2 e3 => ⟨by omega, e2, xs, e3 _ _ p2, ?_⟩⟩
    · have h1 := p3.len
      have h2 : ((items.take i).filterMap f).length ≤ i := Nat.le_trans (List.length_filterMap_le _ _) (by rw [List.length_take]; omega)
      show _ < 2 ^ 24
      omega
    · rw [take_fm f ha, e1]
      refine (TupAt.snoc e4 (p3.mono (same_tup e3))).mono fun b ys hb => ?_
      rw [upd_ne (ne_of hb (e3 _ _ p2) (by intro z; cases z))]
      exact hb
    · rw [take_fm f ha, e1]
      simp only [Option.toList_none, List.append_nil]
      exact p3.mono (same_tup e3)
  · obtain ⟨_, p1, xs, p2, p3⟩ := p
    rw [List.take_length] at p3
    exact hd H xs p1 p2 p3
end
/-! ### a star among the items -/
def starO (o : Option HO) (t : TA) (σ : L2.St) (H1 : Hp) (Qa : List V → Hp → Prop) : Prop := match o with
  | some (.lst xs) => t σ H1 fun ys H2 => Qa (xs ++ ys) H2
  | some (.tup xs) => t σ H1 fun ys H2 => Qa (xs ++ ys) H2
  | _ => False
def tStarF (te : TE) (t : TA) : TA := fun σ H Qa => te σ H fun x H1 => match x with
  | .ref p => starO (H1 p) t σ H1 Qa
  | _ => False
section
variable {X : Cx} {e : Expr} {es : List Expr} {te : TE} {t : TA} {p : Pos} {σ : L2.St} {H : Hp} {Qa : List V → Hp → Prop}
theorem pa_starF (he : PE X e te) (hr : PA X es t) (hs : starEach (.Starred e p :: es) X.env = (true, eval e X.env) :: starEach es X.env := by rfl) : PA X (.Starred e p :: es) (tStarF te t) := by
  refine ⟨fun pos pins s σ H Q I h => (StX.pa_star (pe_up he) hr hs).run pos pins s σ H Q I ⟨_, h, fun x H1 q => ?_⟩⟩
  split at q
  · unfold starO at q
    split at q
    · rename_i h0
      exact ⟨_, _, rfl, .inr (SqL.of h0), q⟩
    · rename_i h0
      exact ⟨_, _, rfl, .inl (SqT.of h0), q⟩
    · exact q.elim
  · exact q.elim
def starV (x : V) (t : TA) (σ : L2.St) (H1 : Hp) (Qa : List V → Hp → Prop) : Prop := match x with
  | .ref p => starO (H1 p) t σ H1 Qa
  | _ => False
theorem w_star : tStarF te t σ H Qa = te σ H fun x H1 => starV x t σ H1 Qa := rfl
theorem f_star {a : Addr} : starV (.ref a) t σ H Qa = starO (H a) t σ H Qa := rfl
theorem f_starO1 {xs : List V} : starO (some (.lst xs)) t σ H Qa = t σ H fun ys H2 => Qa (xs ++ ys) H2 := rfl
theorem f_starO2 {xs : List V} : starO (some (.tup xs)) t σ H Qa = t σ H fun ys H2 => Qa (xs ++ ys) H2 := rfl
end
end CM

namespace CM
open PySem PySem.Spec PyProof.Rows L2

theorem z_0 : Str.ofString "not a trip" = sL [110, 111, 116, 32, 97, 32, 116, 114, 105, 112] := by decide +kernel
theorem z_1 : Str.ofString "0" = sL [48] := by decide +kernel
theorem z_2 : Str.ofString "" = sL [] := by decide +kernel
theorem z_3 : Str.ofString "0123456789" = sL [48, 49, 50, 51, 52, 53, 54, 55, 56, 57] := by decide +kernel
theorem z_4 : Str.ofString "005" = sL [48, 48, 53] := by decide +kernel
theorem z_5 : Str.ofString "0123" = sL [48, 49, 50, 51] := by decide +kernel
theorem z_6 : Str.ofString "09" = sL [48, 57] := by decide +kernel
theorem z_7 : Str.ofString "3456" = sL [51, 52, 53, 54] := by decide +kernel
theorem z_8 : Str.ofString "05" = sL [48, 53] := by decide +kernel
theorem z_9 : Str.ofString "000" = sL [48, 48, 48] := by decide +kernel
theorem z_10 : Str.ofString "law_cabmeters_k13_ways_and_stops" = sL [108, 97, 119, 95, 99, 97, 98, 109, 101, 116, 101, 114, 115, 95, 107, 49, 51, 95, 119, 97, 121, 115, 95, 97, 110, 100, 95, 115, 116, 111, 112, 115] := by decide +kernel
local macro_rules | `(tactic| walk_at "wp") => `(tactic| simp only [w_var, w_c, w_seq, w_next, w_brk, w_cont, w_drop, w_ret, w_retN, w_ifs, w_never, w_asg, w_aug, w_gname, w_gnil, w_gcons, w_gsub, w_op, w_un, w_test, w_b, w_and, w_or, w_not, w_andV, w_orV, w_notV, w_if, w_chain, w_nil, w_cons, w_tup, w_lst, w_cb, w_call, w_part, w_nopart, w_sl, w_lm0, w_lm, w_m0, w_m1, w_fmt, f_fmt1, f_fmt2, w_js0, w_js, f_js, emptyS, w_yes, w_isN, w_notN, w_isB, w_notB, w_rU, w_for, w_rng1, w_rng2, f_rng1, f_rng2, w_ilist, w_itup, w_istr, w_lc, w_wipe0, w_wipe, w_gtup, w_gtO,
  f_add1, f_add2, f_add3, f_addO, f_iadd1, f_iadd2, f_sub, f_mul1, f_mul2, f_mul3, f_mulO, f_fdiv, f_mod, f_pow, f_lt, f_le, f_gt, f_ge, f_eq1, f_eq2, f_eq3, f_eq4, f_eq5, f_eq6, f_eq7, f_eq8, f_eq9, f_eq10, f_ne1, f_ne2, f_ne3, f_ne4, f_ne5, f_ne6, x_eq1, x_eq2, x_eq3, x_eq4, x_eq5, x_eq6, x_eq7, x_eq8, x_eq9, x_eq10, x_eq11, x_eq12, x_eq13, x_ne1, x_ne2, x_ne3, x_ne4, x_ne5, x_ne6, x_ne7, x_ne8, x_ne9, w_star, f_star, f_starO1, f_starO2, f_in, f_notIn, f_ix1, f_ix2, f_at1, f_at2, f_sl1, f_slO, f_sl2, f_set, f_setO, f_len1, f_len2, f_lenO1, f_lenO2, f_abs, f_max1, f_max2, f_min1, f_min2, f_maxO, f_minO, f_int1, f_int2, f_int3, f_str, f_list, f_listO1, f_listO2, f_tup, f_tupO1, f_tupO2, f_sum, f_sumO, f_all, f_allO, f_isi, f_ty1, f_ty2, f_ty3, f_ty4, f_ty5, f_tyO1, f_tyO2, f_isL, f_isLO, f_app, f_appO, f_pop1, f_pop2, f_popO, f_popAtO, f_clear, f_clearO, f_ext, f_extO, f_join, f_joinO, f_split, okTy, subTy, tl_s, cps_s, len_sL, List.length_append, sL_app, upd_same, upd_upd, at_nn, ix_nn, Int.reduceLE, Int.reduceLT, Int.reduceToNat, Int.reduceNeg, Int.cast_ofNat_Int, Int.toNat_natCast, Int.natCast_nonneg, Int.toNat_zero, Int.toNat_one, List.eraseIdx_cons_zero, List.eraseIdx_cons_succ, z_0, z_1, z_2, z_3, z_4, z_5, z_6, z_7, z_8, z_9, z_10,
  start_eq, nones0, nonesS, List.map_cons, List.map_nil, List.length_cons, List.length_nil, Nat.reduceAdd, Nat.reduceSub, Nat.zero_add, List.cons_append, List.nil_append, List.append_nil, List.getElem?_cons_zero, List.getElem?_cons_succ, List.set_cons_zero, List.set_cons_succ, Option.some.injEq, exists_eq_left, exists_eq_left', exists_and_left, exists_eq', and_true, true_and, V.str.injEq, V.int.injEq, V.bl.injEq, V.ref.injEq, List.cons.injEq, if_true, if_false, ite_true, ite_false, reduceIte, Bool.not_true, Bool.not_false, Bool.false_eq_true, decide_true, decide_false, Bool.or_true, Bool.true_or, Bool.or_false, Bool.false_or, beq_self_eq_true, String.reduceBEq, forall_const, implies_true, reduceCtorEq, false_and, and_false, or_false, false_or, exists_const, exists_false, L2.cxOf, decide_eq_true_eq, Bool.not_eq_true', decide_eq_false_iff_not])
local macro_rules | `(tactic| walk_at "wps") => `(tactic| simp only [w_var, w_c, w_seq, w_next, w_brk, w_cont, w_drop, w_ret, w_retN, w_ifs, w_never, w_asg, w_aug, w_gname, w_gnil, w_gcons, w_gsub, w_op, w_un, w_test, w_b, w_and, w_or, w_not, w_andV, w_orV, w_notV, w_if, w_chain, w_nil, w_cons, w_tup, w_lst, w_cb, w_call, w_part, w_nopart, w_sl, w_lm0, w_lm, w_m0, w_m1, w_fmt, f_fmt1, f_fmt2, w_js0, w_js, f_js, emptyS, w_yes, w_isN, w_notN, w_isB, w_notB, w_rU, w_for, w_rng1, w_rng2, f_rng1, f_rng2, w_ilist, w_itup, w_istr, w_lc, w_wipe0, w_wipe, w_gtup, w_gtO,
  f_add1, f_add2, f_add3, f_addO, f_iadd1, f_iadd2, f_sub, f_mul1, f_mul2, f_mul3, f_mulO, f_fdiv, f_mod, f_pow, f_lt, f_le, f_gt, f_ge, f_eq1, f_eq2, f_eq3, f_eq4, f_eq5, f_eq6, f_eq7, f_eq8, f_eq9, f_eq10, f_ne1, f_ne2, f_ne3, f_ne4, f_ne5, f_ne6, x_eq1, x_eq2, x_eq3, x_eq4, x_eq5, x_eq6, x_eq7, x_eq8, x_eq9, x_eq10, x_eq11, x_eq12, x_eq13, x_ne1, x_ne2, x_ne3, x_ne4, x_ne5, x_ne6, x_ne7, x_ne8, x_ne9, w_star, f_star, f_starO1, f_starO2, f_in, f_notIn, f_ix1, f_ix2, f_at1, f_at2, f_sl1, f_slO, f_sl2, f_set, f_setO, f_len1, f_len2, f_lenO1, f_lenO2, f_abs, f_max1, f_max2, f_min1, f_min2, f_maxO, f_minO, f_int1, f_int2, f_int3, f_str, f_list, f_listO1, f_listO2, f_tup, f_tupO1, f_tupO2, f_sum, f_sumO, f_all, f_allO, f_isi, f_ty1, f_ty2, f_ty3, f_ty4, f_ty5, f_tyO1, f_tyO2, f_isL, f_isLO, f_app, f_appO, f_pop1, f_pop2, f_popO, f_popAtO, f_clear, f_clearO, f_ext, f_extO, f_join, f_joinO, f_split, okTy, subTy, tl_s, cps_s, len_sL, List.length_append, sL_app, upd_same, upd_upd, at_nn, ix_nn, Int.reduceLE, Int.reduceLT, Int.reduceToNat, Int.reduceNeg, Int.cast_ofNat_Int, Int.toNat_natCast, Int.natCast_nonneg, Int.toNat_zero, Int.toNat_one, List.eraseIdx_cons_zero, List.eraseIdx_cons_succ, z_0, z_1, z_2, z_3, z_4, z_5, z_6, z_7, z_8, z_9, z_10,
  start_eq, nones0, nonesS, List.map_cons, List.map_nil, List.length_cons, List.length_nil, Nat.reduceAdd, Nat.reduceSub, Nat.zero_add, List.cons_append, List.nil_append, List.append_nil, List.getElem?_cons_zero, List.getElem?_cons_succ, List.set_cons_zero, List.set_cons_succ, Option.some.injEq, exists_eq_left, exists_eq_left', exists_and_left, exists_eq', and_true, true_and, V.str.injEq, V.int.injEq, V.bl.injEq, V.ref.injEq, List.cons.injEq, if_true, if_false, ite_true, ite_false, reduceIte, Bool.not_true, Bool.not_false, Bool.false_eq_true, decide_true, decide_false, Bool.or_true, Bool.true_or, Bool.or_false, Bool.false_or, beq_self_eq_true, String.reduceBEq, forall_const, implies_true, reduceCtorEq, false_and, and_false, or_false, false_or, exists_const, exists_false, L2.cxOf, decide_eq_true_eq, Bool.not_eq_true', decide_eq_false_iff_not, *])
local macro_rules | `(tactic| walk_at "go1") => `(tactic| first | walk_at "wp" | (refine And.intro ?_ ?_; (focus omega)) | (refine ite2 ?_ ?_; (focus (intro hh; exfalso; omega)); intro _) | (refine ite2 ?_ ?_; rotate_left; (focus (intro hh; exfalso; omega)); intro _))
local macro_rules | `(tactic| walk_at "go") => `(tactic| repeat walk_at "go1")

def top (i : Nat) : Stmt := PySem.Challenge.pw_cabmeters_k13_ways_and_stops.main.body.getD i (.Pass ⟨0, 0, 0, 0⟩)
structure Txt (K : PySem.W.Frag) (mg : Str → Option Value) : Prop where
  n_isinstance : mg "isinstance" = none
  n_str : mg "str" = none
  n_int : mg "int" = none
  n_list : mg "list" = none
  n_len : mg "len" = none
  n_all : mg "all" = none
  n_abs : mg "abs" = none
  n_min : mg "min" = none
  n_max : mg "max" = none
  n_sum : mg "sum" = none
  n_range : mg "range" = none
  g_MOST_TICKS : ∃ t, mg "MOST_TICKS" = some (.int 2000 t)
  g_DIGITS : ∃ t, mg "DIGITS" = some (.str "0123456789" t)

/-! ### is_trip, check_trip -/
def isTripB : V → Bool
  | .str z => decide (z.length ≤ 2000) && (tl z).all digB
  | _ => false
theorem isTrip_of {l : List Nat} (h : Trip l) : isTripB (.str (sL l)) = true := by
  show (decide ((sL l).length ≤ 2000) && l.all digB) = true
  rw [len_sL, decide_eq_true h.1, Bool.true_and, List.all_eq_true]
  exact h.2
def szV : V → Prop
  | .str z => z.length ≤ 16777216
  | _ => True
theorem trip_sz {l : List Nat} (hT : Trip l) : szV (.str (sL l)) := by
  show (sL l).length ≤ _
  rw [len_sL]
  have := hT.1
  omega
section
variable {P : Program} {w : World} {K : PySem.W.Frag} {mg : Str → Option Value} {base : Heap}
abbrev s_is_trip : Stmt := top 6
theorem sc_is_trip : FnScope ["value", "digit"] ["value"] (defScope s_is_trip) := ⟨rfl, rfl, rfl, by decide +kernel, rfl, by decide +kernel, by decide +kernel⟩
def sp_is_trip : Sp := fun vs H Q _ => ∃ x T, vs = [x] ∧ tyF x H = some T ∧ szV x ∧ ∀ H', Same H H' → Q (.bl (isTripB x)) H'
theorem ok_is_trip (D : Df K mg "is_trip" s_is_trip ["value"]) (T : Txt K mg) : Fn P w K mg base "is_trip" 1 ["value"] sp_is_trip := by
  refine D.ok sc_is_trip (fun vs H Q E h => ?_) (fun f cdv A outer s H vs Q E hr h => ?_)
  · obtain ⟨x, U, rfl, _⟩ := h
    rfl
  · obtain ⟨x, U, rfl, hU, hz, k⟩ := h
    refine ⟨_, (pss_cons (ps_if (PW.pt (pw_or (pt_not (pt_val (pe_callB call_isiF (by rfl) T.n_isinstance (by decide +kernel) (pa_cons (pv 0) (pa_cons (pe_ty (T := "str") T.n_str) pa_nil))))) (pw_or1 (pt_cmpR op_gtF (pe_callB call_lenF (by rfl) T.n_len (by decide +kernel) (pa_cons (pv 0) pa_nil)) (pe_gint T.g_MOST_TICKS) (nomark _))))) (pss_one (ps_ret pe_bl)) pss_nil)
      (pss_one (ps_ret (pe_callB (call_allF rfl) (by rfl) T.n_all (by decide +kernel) (pa_cons (pe_lc (own := [("digit", 1)]) (g := (gName 1)) rfl sc_is_trip.nd (pi_str (pv 0)) (blkOk_by (own := [("digit", 1)]) (N := ["value", "digit"]) (sc := defScope s_is_trip) (by decide +kernel)) (fun _ _ _ _ _ => (pg_name (i := 1) sc_is_trip.nd rfl (Or.inl rfl))) (fun _ _ _ _ _ => pts_nil) (fun _ _ _ _ _ => (pe_cmpR op_inF (pv 1) (pe_gstr T.g_DIGITS) (by rfl)))) pa_nil))))), ?_⟩
    by_cases hx : ∃ z, x = .str z
    · obtain ⟨z, rfl⟩ := hx
      obtain ⟨l, rfl⟩ : ∃ l, z = sL l := ⟨tl z, (sL_tl z).symm⟩
      have hz : (sL l).length ≤ 16777216 := hz
      rw [len_sL] at hz
      have k : ∀ H', Same H H' → Q (.bl (decide ((sL l).length ≤ 2000) && l.all digB)) H' := k
      rw [len_sL] at k
      walk_at "go"
      refine ite2 (fun h => ?_) (fun h => ?_)
      · rw [decide_eq_false (by omega)] at k
        exact k H (Same.refl _)
      · intro D hD
        refine lpc_gen (walkS l) rfl hD hz (fun c => some (.bl (digB c))) (fun H' => Same H H') (Same.refl _) (fun H o h => sm_mut h hD) (fun _ _ => trivial) ?_ ?_
        · rintro c H1 N M hc S1 ⟨acc, ha, hN, hM⟩
          walk_at "wp"
          refine hN _ _ ?_ S1 ha
          rw [show [48, 49, 50, 51, 52, 53, 54, 55, 56, 57] = tenD from rfl, dec_ten]
        · intro H1 S1 h1
          rw [fm_bl] at h1
          walk_at "wp"
          rw [h1]
          walk_at "wp"
          have e : (l.map digB).all id = (decide (l.length ≤ 2000) && l.all digB) := by
            rw [decide_eq_true (by omega), Bool.true_and, List.all_map]
            rfl
          rw [e]
          exact k H1 S1
    · have h1 : isTripB x = false := by
        cases x with
        | str z => exact absurd ⟨z, rfl⟩ hx
        | _ => rfl
      rw [h1] at k
      have h2 : subTy U "str" = false := by
        unfold tyF at hU
        split at hU
        case h_4 z => exact absurd ⟨z, rfl⟩ hx
        case h_5 =>
          split at hU <;> first | (cases hU; rfl) | cases hU
        all_goals first | (cases hU; rfl) | cases hU
      simp only [w_seq, w_ifs, w_or, w_not, w_b, w_cb, w_cons, w_var, w_c, w_nil, f_isi]
      refine ⟨x, rfl, ?_⟩
      rw [hU]
      refine ⟨rfl, false, by rw [h2], ?_⟩
      exact k H (Same.refl _)
abbrev s_check_trip : Stmt := top 7
theorem sc_check_trip : FnScope ["trip"] ["trip"] (defScope s_check_trip) := ⟨rfl, rfl, rfl, by decide +kernel, rfl, by decide +kernel, by decide +kernel⟩
def sp_check_trip : Sp := fun vs H Q _ => ∃ x T, vs = [x] ∧ tyF x H = some T ∧ szV x ∧ isTripB x = true ∧ ∀ H', Same H H' → Q .non H'
theorem ok_check_trip (D : Df K mg "check_trip" s_check_trip ["trip"]) (F_is_trip : Fn P w K mg base "is_trip" 1 ["value"] sp_is_trip) (T : Txt K mg) : Fn P w K mg base "check_trip" 2 ["trip"] sp_check_trip := by
  refine D.ok sc_check_trip (fun vs H Q E h => ?_) (fun f cdv A outer s H vs Q E hr h => ?_)
  · obtain ⟨x, U, rfl, _⟩ := h
    rfl
  · obtain ⟨x, U, rfl, hU, hz, ht, k⟩ := h
    refine ⟨_, (pss_one (ps_if (pt_not (pt_val (pe_fn F_is_trip (hr.mono (by decide)) rfl (pa_cons (pv 0) pa_nil)))) (pss_one ps_never) pss_nil)), ?_⟩
    walk_at "wp"
    refine ⟨x, U, rfl, hU, hz, fun H1 S1 => ?_⟩
    rw [ht]
    walk_at "wp"
    exact k H1 S1
end

/-! ### stretches_of, as_text -/
def tRun (r : Nat × Nat × Nat) : List V := [.str (sL [r.1]), .int (r.2.1 : Int), .int (r.2.2 : Int)]
section
variable {P : Program} {w : World} {K : PySem.W.Frag} {mg : Str → Option Value} {base : Heap}
abbrev s_stretches_of : Stmt := top 11
theorem sc_stretches_of : FnScope ["trip", "found", "begin", "tick"] ["trip"] (defScope s_stretches_of) := ⟨rfl, rfl, rfl, by decide +kernel, rfl, by decide +kernel, by decide +kernel⟩
def sp_stretches_of : Sp := fun vs H Q _ => ∃ l, vs = [.str (sL l)] ∧ Trip l ∧ ∀ p xs H', Same H H' → H p = none → H' p = some (.lst xs) → TupAt H' tRun xs (runs l) → Q (.ref p) H'
theorem ok_stretches_of (D : Df K mg "stretches_of" s_stretches_of ["trip"]) (F_check_trip : Fn P w K mg base "check_trip" 2 ["trip"] sp_check_trip) (T : Txt K mg) : Fn P w K mg base "stretches_of" 3 ["trip"] sp_stretches_of := by
  refine D.ok sc_stretches_of (fun vs H Q E h => ?_) (fun f cdv A outer s H vs Q E hr h => ?_)
  · obtain ⟨l, rfl, _⟩ := h
    rfl
  · obtain ⟨l, rfl, hT, k⟩ := h
    have hl := hT.1
    refine ⟨_, (pss_cons (ps_expr (pe_fn F_check_trip (hr.mono (by decide)) rfl (pa_cons (pv 0) pa_nil)))
      (pss_cons (ps_set (i := 1) sc_stretches_of.nd rfl (Or.inl rfl) (pe_lst pa_nil))
      (pss_cons (ps_set (i := 2) sc_stretches_of.nd rfl (Or.inl rfl) pe_int)
      (pss_cons (ps_for PassesOwn.never rfl (pi_range2 (by rfl) T.n_range (pa_cons pe_int (pa_cons (pe_op op_addF (pe_callB call_lenF (by rfl) T.n_len (by decide +kernel) (pa_cons (pv 0) pa_nil)) pe_int) pa_nil))) (pg_name (i := 3) sc_stretches_of.nd rfl (Or.inl rfl)) (pss_one (ps_if (PW.pt (pw_or (pt_cmpR (op_eqX (K := K) hr.units) (pv 3) (pe_callB call_lenF (by rfl) T.n_len (by decide +kernel) (pa_cons (pv 0) pa_nil)) (nomark _)) (pw_or1 (pt_cmpR (op_neX (K := K) hr.units) (pe_ix ix_F (pv 0) (pv 3) (fun _ _ => rfl)) (pe_ix ix_F (pv 0) (pv 2) (fun _ _ => rfl)) (nomark _))))) (pss_cons (ps_expr (pe_lm PySem.F.slot_list_append PySem.F.type_list_append mt_appF (pv 1) (pa_cons (pe_tup (pa_cons (pe_ix ix_F (pv 0) (pv 2) (fun _ _ => rfl)) (pa_cons (pv 2) (pa_cons (pv 3) pa_nil)))) pa_nil)))
      (pss_one (ps_set (i := 2) sc_stretches_of.nd rfl (Or.inl rfl) (pv 3)))) pss_nil)))
      (pss_one (ps_ret (pv 1))))))), ?_⟩
    walk_at "wp"
    refine ⟨_, _, rfl, rfl, by show (sL l).length ≤ _; rw [len_sL]; omega, isTrip_of hT, fun H1 S1 => ?_⟩
    walk_at "go"
    refine new_in fun p H2 hp S2 h2 => ?_
    walk_at "go"
    rw [show ((l.length : Int) + 1 - 1).toNat = l.length by omega]
    refine lp_range (fun i σ H' => ∃ xs v, σ = [some (.str (sL l)), some (.ref p), some (.int ((rf l i).2 : Nat)), v] ∧ Same H1 H' ∧ H' p = some (.lst xs) ∧ TupAt H' tRun xs (rf l i).1) ⟨[], none, rfl, S2, h2, trivial⟩ ?_ ?_
    · rintro i σ H' hi ⟨xs, v, rfl, S3, h3, t3⟩
      have I := rf_inv hT i (by omega)
      have hb : (rf l i).2 ≤ i := I.le
      have hf := I.few
      have hx := t3.len
      have e0 : (1 : Int) + (i : Int) = ((i + 1 : Nat) : Int) := by omega
      have er : rf l (i + 1) = rst l (rf l i) (i + 1) := rfl
      rw [e0]
      generalize hrf : rf l i = st at *
      obtain ⟨rs, b⟩ := st
      have hb : b ≤ i := hb
      have hf : rs.length ≤ i := hf
      have hx : xs.length = rs.length := hx
      have hbl : b < l.length := by omega
      have t3 : TupAt H' tRun xs rs := t3
      have eb : atI l (b : Int) = some (l.getD b 0) := by
        rw [at_nat l b hbl]
        exact getD_of hbl
      have hc0 := getD_of hbl
      walk_at "go"
      refine ite2 (fun hc => ?_) (fun hc => ?_)
      · simp only [hc0, h3]
        walk_at "go"
        refine new_in fun a H4 ha S4 h4 => ?_
        rw [S4 _ _ h3]
        walk_at "go"
        refine ⟨xs ++ [.ref a], some (.int ((i + 1 : Nat) : Int)), ?_, sm_mut (S3.trans S4) hp, upd_same, ?_⟩
        · rw [er, rst, if_pos (.inl (by omega))]
        · rw [er, rst, if_pos (.inl (by omega))]
          exact (TupAt.snoc (r := (l.getD b 0, b, i + 1)) h4 (t3.mono (same_tup S4))).mono fun q ys hq => by
            rw [upd_ne (ne_of hq (S4 _ _ h3) (by intro z; cases z))]
            exact hq
      · have hil : i + 1 < l.length := by omega
        have ei : atI l ((i + 1 : Nat) : Int) = some (l.getD (i + 1) 0) := by
          rw [at_nat l _ hil]
          exact getD_of hil
        have hd0 := getD_of hil
        simp only [hc0, hd0, h3]
        walk_at "go"
        refine ite2 (fun hd => ?_) (fun hd => ?_)
        · have hr : rst l (rs, b) (i + 1) = (rs ++ [(l.getD b 0, b, i + 1)], i + 1) := if_pos (.inr fun z => by
            show False
            have z : l[i + 1]? = l[b]? := z
            rw [hc0, hd0] at z
            exact hd (by rw [Option.some.inj z]))
          walk_at "go"
          refine new_in fun a H4 ha S4 h4 => ?_
          rw [S4 _ _ h3]
          walk_at "go"
          refine ⟨xs ++ [.ref a], some (.int ((i + 1 : Nat) : Int)), ?_, sm_mut (S3.trans S4) hp, upd_same, ?_⟩
          · rw [er, hr]
          · rw [er, hr]
            exact (TupAt.snoc (r := (l.getD b 0, b, i + 1)) h4 (t3.mono (same_tup S4))).mono fun q ys hq => by
              rw [upd_ne (ne_of hq (S4 _ _ h3) (by intro z; cases z))]
              exact hq
        · have hr : rst l (rs, b) (i + 1) = (rs, b) := if_neg fun z => z.elim (fun z => by omega) fun z => hd fun q => by
            have q := List.head_eq_of_cons_eq (sL_inj q)
            have z : l[i + 1]? ≠ l[b]? := z
            rw [hc0, hd0, q] at z
            exact z rfl
          refine ⟨xs, some (.int ((i + 1 : Nat) : Int)), ?_, S3, h3, ?_⟩
          · rw [er, hr]
          · rw [er, hr]
            exact t3
    · rintro σ H' ⟨xs, v, rfl, S3, h3, t3⟩
      walk_at "wp"
      exact k p xs H' (S1.trans S3) (S1.free hp) h3 t3
end

/-! ### the bag and its draws -/
theorem i01 (c : Prop) [Decidable c] : -(2 ^ 64) < (if c then (1 : Int) else 0) ∧ (if c then (1 : Int) else 0) < 2 ^ 64 := by
  split <;> decide
theorem n01 (c : Prop) [Decidable c] (x : Int) (h : 0 ≤ x) : 0 ≤ x * (if c then (1 : Int) else 0) := by
  split
  · omega
  · omega
section
variable {P : Program} {w : World} {K : PySem.W.Frag} {mg : Str → Option Value} {base : Heap}
abbrev s_law_bag : Stmt := top 14
theorem sc_law_bag : FnScope ["_law_script"] ["_law_script"] (defScope s_law_bag) := ⟨rfl, rfl, rfl, by decide +kernel, rfl, by decide +kernel, by decide +kernel⟩
def sp_law_bag (K : PySem.W.Frag) : Sp := fun vs H Q _ => ∃ (a : Addr) (ns : List Int), vs = [.ref a] ∧ SqL K H a (ns.map V.int) ∧ ∀ b sp H', Same H H' → H b = none → H sp = none → Bag H' b sp → Q (.ref b) H'
theorem ok_law_bag (D : Df K mg "_law_bag" s_law_bag ["_law_script"]) (T : Txt K mg) : Fn P w K mg base "_law_bag" 1 ["_law_script"] (sp_law_bag K) := by
  refine D.ok sc_law_bag (fun vs H Q E h => ?_) (fun f cdv A outer s H vs Q E hr h => ?_)
  · obtain ⟨a, ns, rfl, _⟩ := h
    rfl
  · obtain ⟨a, ns, rfl, hS, k⟩ := h
    refine ⟨_, (pss_one (ps_ret (pe_lst (pa_cons (pe_callTy call_list_of (by rfl) T.n_list (by decide +kernel) (pa_cons (pv 0) pa_nil)) (pa_cons pe_int (pa_cons pe_int (pa_cons pe_int (pa_cons pe_int pa_nil)))))))), ?_⟩
    walk_at "wp"
    refine ⟨_, .inl hS, fun sp hsp => ?_⟩
    refine ⟨by decide, fun b hb => ?_⟩
    have hne : sp ≠ b := fun z => by
      rw [z, upd_same] at hb
      cases hb
    have hb0 : H b = none := by
      rw [upd_ne hne.symm] at hb
      exact hb
    refine k b sp _ (sm_mut (sm_new hsp) hb0) hb0 hsp ⟨hne, ns, 0, 0, 17, 0, upd_same, by rw [upd_ne hne, upd_same], by decide, by decide⟩
abbrev s_law_draw : Stmt := top 15
theorem sc_law_draw : FnScope ["_law_bag_here", "_law_size", "_law_cell", "_law_digit", "_law_mixed_here"] ["_law_bag_here", "_law_size"] (defScope s_law_draw) := ⟨rfl, rfl, rfl, by decide +kernel, rfl, by decide +kernel, by decide +kernel⟩
def sp_law_draw : Sp := fun vs H Q _ => ∃ (b sp : Addr) (n : Int), vs = [.ref b, .int n] ∧ Bag H b sp ∧ 0 < n ∧ n < 1073741824 ∧ ∀ r H', 0 ≤ r → r < n → Bag H' b sp → (∀ q, q ≠ b → H' q = H q) → Q (.int r) H'
theorem ok_law_draw (D : Df K mg "_law_draw" s_law_draw ["_law_bag_here", "_law_size"]) (T : Txt K mg) : Fn P w K mg base "_law_draw" 1 ["_law_bag_here", "_law_size"] sp_law_draw := by
  refine D.ok sc_law_draw (fun vs H Q E h => ?_) (fun f cdv A outer s H vs Q E hr h => ?_)
  · obtain ⟨b, sp, n, rfl, _⟩ := h
    rfl
  · obtain ⟨b, sp, n, rfl, ⟨hne, ns, i, big, mix, cnt, hb, hsp, hi, hbig⟩, hn0, hn1, k⟩ := h
    have cm : ∀ x y : Int, -(2 ^ 64) < y ∧ y < 2 ^ 64 → CMul x y := fun x y h => .inr h
    have cp : ∀ x m k : Int, 0 < m → m < 2 ^ 60 → 0 ≤ k → k ≤ 1000 → CPow (x % m) k := fun x m k h1 h2 h3 h4 => by
      have a := Int.emod_nonneg x (show m ≠ 0 by omega)
      have b := Int.emod_lt_of_pos x h1
      exact ⟨h3, by omega, by omega⟩
    have fin : ∀ (x i' big' mix' cnt' : Int), 0 ≤ i' → 0 ≤ big' → Q (.int (x % n)) (upd H b (.lst [.ref sp, .int i', .int big', .int mix', .int cnt'])) := fun x i' big' mix' cnt' h1 h2 =>
      k _ _ (Int.emod_nonneg x (by omega)) (Int.emod_lt_of_pos x hn0) ⟨hne, ns, i', big', mix', cnt', upd_same, by rw [upd_ne hne]; exact hsp, h1, h2⟩ fun q hq => upd_ne hq
    have tail : ∀ (i' big' mix' cnt' : Int), 0 ≤ i' → 0 ≤ big' → (0 < n ∧ if 0 < big' then CDiv big' n ∧ Q (.int (big' % n)) (upd H b (.lst [.ref sp, .int i', .int (big' / n), .int mix', .int cnt'])) else
        CMul cnt' 40692 ∧ CPow ((mix' + cnt' * 40692) % 2147483647) 3 ∧ CMul cnt' 16807 ∧ CPow ((((mix' + cnt' * 40692) % 2147483647) ^ 3 + cnt' * 16807 + 7) % 2147483629) 2 ∧
        CDiv (((((mix' + cnt' * 40692) % 2147483647) ^ 3 + cnt' * 16807 + 7) % 2147483629) ^ 2 % 2147483587) 8 ∧ 0 < n ∧
        Q (.int (((((mix' + cnt' * 40692) % 2147483647) ^ 3 + cnt' * 16807 + 7) % 2147483629) ^ 2 % 2147483587 / 8 % n)) (upd H b (.lst [.ref sp, .int i', .int big', .int mix', .int cnt']))) := fun i' big' mix' cnt' h1 h2 => by
      refine ⟨hn0, ite2 (fun h3 => ?_) (fun h3 => ?_)⟩
      · exact ⟨⟨hn0, hn1⟩, fin _ _ _ _ _ h1 (Int.ediv_nonneg h2 (by omega))⟩
      · exact ⟨cm _ _ (by decide), cp _ _ _ (by decide) (by decide) (by decide) (by decide), cm _ _ (by decide), cp _ _ _ (by decide) (by decide) (by decide) (by decide), ⟨by decide, by decide⟩, hn0, fin _ _ _ _ _ h1 h2⟩
    refine ⟨_, (pss_cons (ps_asg (pe_op op_addF (pe_ix ix_F (pv 0) pe_int (fun _ _ => rfl)) pe_int) (pg_sub (pv 0) pe_int set_F))
      (pss_cons (ps_if (PW.pt (pw_and (pt_cmpR (op_eqX (K := K) hr.units) (pe_ix ix_F (pv 0) pe_int (fun _ _ => rfl)) pe_int (nomark _)) (pw_and1 (pt_cmpR op_ltF (pe_ix ix_F (pv 0) pe_int (fun _ _ => rfl)) (pe_callB call_lenF (by rfl) T.n_len (by decide +kernel) (pa_cons (pe_ix ix_F (pv 0) pe_int (fun _ _ => rfl)) pa_nil)) (nomark _))))) (pss_cons (ps_set (i := 2) sc_law_draw.nd rfl (Or.inl rfl) (pe_ix ix_F (pe_ix ix_F (pv 0) pe_int (fun _ _ => rfl)) (pe_ix ix_F (pv 0) pe_int (fun _ _ => rfl)) (fun _ _ => rfl)))
      (pss_cons (ps_asg (pe_op op_addF (pe_ix ix_F (pv 0) pe_int (fun _ _ => rfl)) pe_int) (pg_sub (pv 0) pe_int set_F))
      (pss_cons (ps_asg (pe_op op_mulF (pe_op op_addF (pe_op op_mulF pe_int (pe_callB call_absF (by rfl) T.n_abs (by decide +kernel) (pa_cons (pv 2) pa_nil))) (pe_callTy call_intF' (by rfl) T.n_int (by decide +kernel) (pa_cons (pe_cmpR op_ltF (pv 2) pe_int (nomark _)) pa_nil))) (pe_callTy call_intF' (by rfl) T.n_int (by decide +kernel) (pa_cons (pe_cmpR op_geF (pe_callB call_absF (by rfl) T.n_abs (by decide +kernel) (pa_cons (pv 2) pa_nil)) (pe_op op_powF pe_int pe_int) (nomark _)) pa_nil))) (pg_sub (pv 0) pe_int set_F))
      (pss_one (ps_asg (pe_op op_modF (pe_callTy call_intF' (by rfl) T.n_int (by decide +kernel) (pa_cons (pe_op op_addF (pe_op op_addF (pe_op op_mulF (pe_ix ix_F (pv 0) pe_int (fun _ _ => rfl)) pe_int) (pe_op op_mulF (pv 2) pe_int)) pe_int) pa_nil)) pe_int) (pg_sub (pv 0) pe_int set_F)))))) pss_nil)
      (pss_cons (ps_set (i := 3) sc_law_draw.nd rfl (Or.inl rfl) (pe_op op_modF (pe_callTy call_intF' (by rfl) T.n_int (by decide +kernel) (pa_cons (pe_ix ix_F (pv 0) pe_int (fun _ _ => rfl)) pa_nil)) (pv 1)))
      (pss_cons (ps_if (pt_cmpR op_gtF (pe_ix ix_F (pv 0) pe_int (fun _ _ => rfl)) pe_int (nomark _)) (pss_cons (ps_asg (pe_op op_fdivF (pe_ix ix_F (pv 0) pe_int (fun _ _ => rfl)) (pv 1)) (pg_sub (pv 0) pe_int set_F))
      (pss_one (ps_ret (pv 3)))) pss_nil)
      (pss_cons (ps_set (i := 4) sc_law_draw.nd rfl (Or.inl rfl) (pe_op op_modF (pe_callTy call_intF' (by rfl) T.n_int (by decide +kernel) (pa_cons (pe_op op_addF (pe_ix ix_F (pv 0) pe_int (fun _ _ => rfl)) (pe_op op_mulF (pe_ix ix_F (pv 0) pe_int (fun _ _ => rfl)) pe_int)) pa_nil)) pe_int))
      (pss_cons (ps_set (i := 4) sc_law_draw.nd rfl (Or.inl rfl) (pe_op op_modF (pe_callTy call_intF' (by rfl) T.n_int (by decide +kernel) (pa_cons (pe_op op_addF (pe_op op_addF (pe_op op_powF (pv 4) pe_int) (pe_op op_mulF (pe_ix ix_F (pv 0) pe_int (fun _ _ => rfl)) pe_int)) pe_int) pa_nil)) pe_int))
      (pss_one (ps_ret (pe_op op_modF (pe_op op_fdivF (pe_op op_modF (pe_callTy call_intF' (by rfl) T.n_int (by decide +kernel) (pa_cons (pe_op op_powF (pv 4) pe_int) pa_nil)) pe_int) pe_int) (pv 1)))))))))), ?_⟩
    walk_at "wp"
    rw [hb]
    walk_at "wp"
    rw [hb]
    walk_at "wp"
    refine ite2 (fun h1 => ?_) (fun h1 => ?_)
    · rw [upd_ne hne, hsp]
      walk_at "wp"
      rw [List.length_map]
      refine ite2 (fun h2 => ?_) (fun h2 => ?_)
      · rw [upd_ne hne, hsp]
        have hlt : i.toNat < ns.length := by omega
        have hc : atI (List.map V.int ns) i = some (.int ns[i.toNat]) := by
          rw [at_nn hi, List.getElem?_map, List.getElem?_eq_getElem hlt]
          rfl
        walk_at "wp"
        rw [hc]
        generalize ns[i.toNat] = cell
        walk_at "wp"
        refine ⟨.inl (by decide), ⟨by decide, by decide, by decide⟩, .inr (i01 _), cm _ _ (by decide), cm _ _ (by decide), ?_⟩
        refine tail (i + 1) _ _ _ (by omega) (n01 _ _ ?_)
        split <;> omega
      · exact tail i big mix (cnt + 1) hi hbig
    · exact tail i big mix (cnt + 1) hi hbig
end

/-! ### mixed, drawn trips -/
theorem perm_erase {α : Type} : ∀ {l : List α} {j : Nat} (h : j < l.length), (l[j] :: l.eraseIdx j).Perm l
  | a :: l, 0, _ => List.Perm.refl _
  | a :: l, j + 1, h => ((List.Perm.swap a (l[j]'(by simpa using h)) (l.eraseIdx j))).trans (List.Perm.cons a (perm_erase (l := l) (j := j) (by simpa using h)))
section
variable {P : Program} {w : World} {K : PySem.W.Frag} {mg : Str → Option Value} {base : Heap}
abbrev s_law_mixed : Stmt := top 16
theorem sc_law_mixed : FnScope ["_law_bag_here", "_law_items", "_law_left", "_law_found", "_law_k"] ["_law_bag_here", "_law_items"] (defScope s_law_mixed) := ⟨rfl, rfl, rfl, by decide +kernel, rfl, by decide +kernel, by decide +kernel⟩
def sp_law_mixed : Sp := fun vs H Q _ => ∃ (b sp it : Addr) (xs : List V), vs = [.ref b, .ref it] ∧ Bag H b sp ∧ H it = some (.lst xs) ∧ it ≠ b ∧ xs.length < 1000000 ∧ ∀ p ys H', H p = none → H' p = some (.lst ys) → ys.Perm xs → Bag H' b sp → Kp b H H' → Q (.ref p) H'
theorem ok_law_mixed (D : Df K mg "_law_mixed" s_law_mixed ["_law_bag_here", "_law_items"]) (F_law_draw : Fn P w K mg base "_law_draw" 1 ["_law_bag_here", "_law_size"] sp_law_draw) (T : Txt K mg) : Fn P w K mg base "_law_mixed" 2 ["_law_bag_here", "_law_items"] sp_law_mixed := by
  refine D.ok sc_law_mixed (fun vs H Q E h => ?_) (fun f cdv A outer s H vs Q E hr h => ?_)
  · obtain ⟨b, sp, it, xs, rfl, _⟩ := h
    rfl
  · obtain ⟨b, sp, it, xs, rfl, B, hit, hne, hlen, k⟩ := h
    refine ⟨_, (pss_cons (ps_set (i := 2) sc_law_mixed.nd rfl (Or.inl rfl) (pe_callTy call_listF (by rfl) T.n_list (by decide +kernel) (pa_cons (pv 1) pa_nil)))
      (pss_cons (ps_set (i := 3) sc_law_mixed.nd rfl (Or.inl rfl) (pe_lst pa_nil))
      (pss_cons (ps_for PassesOwn.never rfl (pi_range1 (by rfl) T.n_range (pa_cons (pe_callB call_lenF (by rfl) T.n_len (by decide +kernel) (pa_cons (pv 1) pa_nil)) pa_nil)) (pg_name (i := 4) sc_law_mixed.nd rfl (Or.inl rfl)) (pss_one (ps_expr (pe_lm PySem.F.slot_list_append PySem.F.type_list_append mt_appF (pv 3) (pa_cons (pe_lm PySem.F.slot_list_pop PySem.F.type_list_pop mt_popF (pv 2) (pa_cons (pe_fn F_law_draw (hr.mono (by decide)) rfl (pa_cons (pv 0) (pa_cons (pe_callB call_lenF (by rfl) T.n_len (by decide +kernel) (pa_cons (pv 2) pa_nil)) pa_nil))) pa_nil)) pa_nil)))))
      (pss_one (ps_ret (pv 3)))))), ?_⟩
    walk_at "go"
    rw [hit]
    walk_at "go"
    refine new_in fun lf H1 hlf S1 h1 => ?_
    walk_at "go"
    refine new_in fun fd H2 hfd S2 h2 => ?_
    have n1 := (B.ne hlf)
    have n2 := ((B.same S1).ne hfd)
    have n3 : lf ≠ fd := ne_of_none h1 hfd
    walk_at "go"
    rw [S2 _ _ (S1 _ _ hit)]
    walk_at "go"
    refine lp_range (fun i σ H' => ∃ ls fs v, σ = [some (.ref b), some (.ref it), some (.ref lf), some (.ref fd), v] ∧ Bag H' b sp ∧ H' lf = some (.lst ls) ∧ H' fd = some (.lst fs) ∧ (fs ++ ls).Perm xs ∧ fs.length = i ∧ Kp b H H') ⟨xs, [], none, rfl, (B.same S1).same S2, S2 _ _ h1, h2, List.Perm.refl _, rfl, Kp.of_same (S1.trans S2)⟩ ?_ ?_
    · rintro i σ H' hi ⟨ls, fs, v, rfl, B3, hL, hF, hP, hfl, Kp3⟩
      have hpl := hP.length_eq
      rw [List.length_append] at hpl
      walk_at "go"
      simp only [hL, hF]
      walk_at "go"
      refine ⟨b, sp, _, rfl, B3, by omega, by omega, fun r H4 hr0 hr1 B4 e4 => ?_⟩
      obtain ⟨j, rfl⟩ : ∃ j : Nat, r = j := ⟨r.toNat, by omega⟩
      have hj : j < ls.length := by omega
      walk_at "go"
      rw [e4 lf n1.1, hL]
      walk_at "go"
      rw [List.getElem?_eq_getElem hj]
      walk_at "go"
      rw [upd_ne n3.symm, e4 fd n2.1, hF]
      walk_at "go"
      refine ⟨ls.eraseIdx j, fs ++ [ls[j]], some (.int (0 + (i : Int))), rfl, (B4.mut n1.1 n1.2).mut n2.1 n2.2, by rw [upd_ne n3, upd_same], upd_same, ?_, by rw [List.length_append, hfl]; rfl, ?_⟩
      · rw [List.append_assoc]
        exact (List.Perm.append_left fs (perm_erase hj)).trans hP
      · intro q o hq e
        have e3 := Kp3 q o hq e
        rw [upd_ne (ne_of_none e (S1.free hfd)), upd_ne (ne_of_none e hlf), e4 q hq]
        exact e3
    · rintro σ H' ⟨ls, fs, v, rfl, B3, hL, hF, hP, hfl, Kp3⟩
      walk_at "go"
      have hpl := hP.length_eq
      rw [List.length_append, hfl] at hpl
      have hl0 : ls = [] := List.length_eq_zero_iff.mp (by omega)
      subst hl0
      rw [List.append_nil] at hP
      exact k fd fs H' (S1.free hfd) hF hP B3 Kp3
theorem five {r : Int} (h0 : 0 ≤ r) (h1 : r < 5) : ∃ ds : List Nat, [V.str (sL [48, 49, 50, 51, 52, 53, 54, 55, 56, 57]), V.str (sL [48, 48, 53]), V.str (sL [48, 49, 50, 51]), V.str (sL [48, 57]), V.str (sL [51, 52, 53, 54])][r.toNat]? = some (.str (sL ds)) ∧ 0 < ds.length ∧ ds.length ≤ 10 ∧ ∀ c ∈ ds, digB c = true := by
  have h : r = 0 ∨ r = 1 ∨ r = 2 ∨ r = 3 ∨ r = 4 := by omega
  rcases h with rfl | rfl | rfl | rfl | rfl
  · exact ⟨_, rfl, by decide, by decide, by decide⟩
  · exact ⟨_, rfl, by decide, by decide, by decide⟩
  · exact ⟨_, rfl, by decide, by decide, by decide⟩
  · exact ⟨_, rfl, by decide, by decide, by decide⟩
  · exact ⟨_, rfl, by decide, by decide, by decide⟩
theorem int_dig {c : Nat} (h : digB c = true) : PySem.intText? (sL [c]) = some ((c - 48 : Nat) : Int) := by
  have h2 := digB_iff.mp h
  have e := intText_digits (x := sL [c]) (fun x hx => by rw [List.mem_singleton.mp hx]; exact h2) (by simp) (by rw [len_sL]; simp)
  rw [e]
  show some (((0 * 10 + (c - 48) : Nat)) : Int) = _
  rw [Nat.zero_mul, Nat.zero_add]
abbrev s_law_drawn_trip : Stmt := top 17
theorem sc_law_drawn_trip : FnScope ["_law_bag_here", "_law_most", "_law_top", "_law_digits", "_law_trip", "_law_k"] ["_law_bag_here", "_law_most", "_law_top"] (defScope s_law_drawn_trip) := ⟨rfl, rfl, rfl, by decide +kernel, rfl, by decide +kernel, by decide +kernel⟩
def sp_law_drawn_trip : Sp := fun vs H Q _ => ∃ (b sp : Addr) (most top : Nat), vs = [.ref b, .int (most : Int), .int (top : Int)] ∧ Bag H b sp ∧ most ≤ 1000000 ∧ top ≤ 9 ∧ ∀ l H', l.length ≤ most → (∀ c ∈ l, 48 ≤ c ∧ c ≤ 48 + top) → Bag H' b sp → Kp b H H' → Q (.str (sL l)) H'
theorem ok_law_drawn_trip (D : Df K mg "_law_drawn_trip" s_law_drawn_trip ["_law_bag_here", "_law_most", "_law_top"]) (F_law_draw : Fn P w K mg base "_law_draw" 1 ["_law_bag_here", "_law_size"] sp_law_draw) (T : Txt K mg) : Fn P w K mg base "_law_drawn_trip" 2 ["_law_bag_here", "_law_most", "_law_top"] sp_law_drawn_trip := by
  refine D.ok sc_law_drawn_trip (fun vs H Q E h => ?_) (fun f cdv A outer s H vs Q E hr h => ?_)
  · obtain ⟨b, sp, most, top, rfl, _⟩ := h
    rfl
  · obtain ⟨b, sp, most, top, rfl, B, hm, ht, k⟩ := h
    refine ⟨_, (pss_cons (ps_set (i := 3) sc_law_drawn_trip.nd rfl (Or.inl rfl) (pe_ix ix_F (pe_lst (pa_cons pe_str (pa_cons pe_str (pa_cons pe_str (pa_cons pe_str (pa_cons pe_str pa_nil)))))) (pe_fn F_law_draw (hr.mono (by decide)) rfl (pa_cons (pv 0) (pa_cons pe_int pa_nil))) (fun _ _ => rfl)))
      (pss_cons (ps_set (i := 4) sc_law_drawn_trip.nd rfl (Or.inl rfl) pe_str)
      (pss_cons (ps_for PassesOwn.never rfl (pi_range1 (by rfl) T.n_range (pa_cons (pe_fn F_law_draw (hr.mono (by decide)) rfl (pa_cons (pv 0) (pa_cons (pe_op op_addF (pv 1) pe_int) pa_nil))) pa_nil)) (pg_name (i := 5) sc_law_drawn_trip.nd rfl (Or.inl rfl)) (pss_one (ps_set (i := 4) sc_law_drawn_trip.nd rfl (Or.inl rfl) (pe_op op_addF (pv 4) (pe_callTy call_strF (by rfl) T.n_str (by decide +kernel) (pa_cons (pe_callB (call_minF rfl) (by rfl) T.n_min (by decide +kernel) (pa_cons (pv 2) (pa_cons (pe_callTy call_intF' (by rfl) T.n_int (by decide +kernel) (pa_cons (pe_ix ix_F (pv 3) (pe_fn F_law_draw (hr.mono (by decide)) rfl (pa_cons (pv 0) (pa_cons (pe_callB call_lenF (by rfl) T.n_len (by decide +kernel) (pa_cons (pv 3) pa_nil)) pa_nil))) (fun _ _ => rfl)) pa_nil)) pa_nil))) pa_nil))))))
      (pss_one (ps_ret (pv 4)))))), ?_⟩
    walk_at "go"
    refine new_in fun p H1 hp S1 h1 => ?_
    have n1 := B.ne hp
    walk_at "go"
    refine ⟨b, sp, _, rfl, B.same S1, by decide, by decide, fun r H2 hr0 hr1 B2 e2 => ?_⟩
    obtain ⟨ds, hds, hd0, hd1, hd2⟩ := five hr0 hr1
    walk_at "go"
    rw [e2 p n1.1, h1]
    simp only [f_at1, at_nn hr0]
    rw [hds]
    walk_at "go"
    refine ⟨b, sp, _, rfl, B2, by omega, by omega, fun r3 H3 h30 h31 B3 e3 => ?_⟩
    obtain ⟨n, rfl⟩ : ∃ n : Nat, r3 = n := ⟨r3.toNat, by omega⟩
    have K3 : Kp b H H3 := fun q o hq e => by
      rw [e3 q hq, e2 q hq]
      exact S1 q o e
    walk_at "go"
    refine lp_range (fun i σ H' => ∃ l v, σ = [some (.ref b), some (.int (most : Int)), some (.int (top : Int)), some (.str (sL ds)), some (.str (sL l)), v] ∧ Bag H' b sp ∧ Kp b H H' ∧ l.length = i ∧ ∀ c ∈ l, 48 ≤ c ∧ c ≤ 48 + top) ⟨[], none, rfl, B3, K3, rfl, fun c hc => by cases hc⟩ ?_ ?_
    · rintro i σ H' hi ⟨l, v, rfl, B4, K4, hl, hc4⟩
      walk_at "go"
      refine ⟨b, sp, _, rfl, B4, by omega, by omega, fun r5 H5 h50 h51 B5 e5 => ?_⟩
      obtain ⟨j, rfl⟩ : ∃ j : Nat, r5 = j := ⟨r5.toNat, by omega⟩
      have hj : j < ds.length := by omega
      have hdj := hd2 _ (List.getElem_mem hj)
      walk_at "go"
      rw [List.getElem?_eq_getElem hj]
      generalize ds[j] = c at hdj
      have hcd := digB_iff.mp hdj
      walk_at "go"
      rw [int_dig hdj]
      walk_at "go"
      obtain ⟨v, hv, hv1⟩ : ∃ v : Nat, (if ((c - 48 : Nat) : Int) < (top : Int) then ((c - 48 : Nat) : Int) else (top : Int)) = v ∧ v ≤ top := by
        split
        · exact ⟨c - 48, rfl, by omega⟩
        · exact ⟨top, rfl, Nat.le_refl _⟩
      rw [hv, toS, TL.numL_lt (by omega)]
      refine ⟨lg (by omega), ?_⟩
      walk_at "go"
      refine ⟨l ++ [48 + v], some (.int (0 + (i : Int))), rfl, B5, fun q o hq e => ?_, by rw [List.length_append, hl]; rfl, ?_⟩
      · rw [e5 q hq]
        exact K4 q o hq e
      · intro x hx
        rcases List.mem_append.mp hx with hx | hx
        · exact hc4 x hx
        · rw [List.mem_singleton.mp hx]
          omega
    · rintro σ H' ⟨l, v, rfl, B4, K4, hl, hc4⟩
      walk_at "go"
      exact k l H' (by omega) hc4 B4 K4
end

/-! ### ways_of, way_of, fastest, stops -/
def dv (c : Nat) : Int := ((c - 48 : Nat) : Int)
def wayTo (l : List Nat) (i : Nat) : Int := ((l.take i).map dv).sum
def waysL (l : List Nat) : List Int := (List.range (l.length + 1)).map (wayTo l)
theorem wayTo_next {l : List Nat} {i c : Nat} (h : l[i]? = some c) : wayTo l (i + 1) = wayTo l i + dv c := by
  unfold wayTo
  rw [List.take_add_one, h, List.map_append, List.sum_append]
  show _ + (dv c + 0) = _
  omega
theorem range_snoc (n : Nat) (f : Nat → Int) : (List.range (n + 1)).map f = (List.range n).map f ++ [f n] := by
  rw [List.range_succ, List.map_append]
  rfl
section
variable {P : Program} {w : World} {K : PySem.W.Frag} {mg : Str → Option Value} {base : Heap}
abbrev s_ways_of : Stmt := top 8
theorem sc_ways_of : FnScope ["trip", "found", "digit"] ["trip"] (defScope s_ways_of) := ⟨rfl, rfl, rfl, by decide +kernel, rfl, by decide +kernel, by decide +kernel⟩
def sp_ways_of : Sp := fun vs H Q _ => ∃ l, vs = [.str (sL l)] ∧ Trip l ∧ ∀ p H', Same H H' → H p = none → H' p = some (.lst ((waysL l).map V.int)) → Q (.ref p) H'
theorem ok_ways_of (D : Df K mg "ways_of" s_ways_of ["trip"]) (F_check_trip : Fn P w K mg base "check_trip" 2 ["trip"] sp_check_trip) (T : Txt K mg) : Fn P w K mg base "ways_of" 3 ["trip"] sp_ways_of := by
  refine D.ok sc_ways_of (fun vs H Q E h => ?_) (fun f cdv A outer s H vs Q E hr h => ?_)
  · obtain ⟨l, rfl, _⟩ := h
    rfl
  · obtain ⟨l, rfl, hT, k⟩ := h
    have hl := hT.1
    refine ⟨_, (pss_cons (ps_expr (pe_fn F_check_trip (hr.mono (by decide)) rfl (pa_cons (pv 0) pa_nil)))
      (pss_cons (ps_set (i := 1) sc_ways_of.nd rfl (Or.inl rfl) (pe_lst (pa_cons pe_int pa_nil)))
      (pss_cons (ps_for PassesOwn.never rfl (pi_str (pv 0)) (pg_name (i := 2) sc_ways_of.nd rfl (Or.inl rfl)) (pss_one (ps_expr (pe_lm PySem.F.slot_list_append PySem.F.type_list_append mt_appF (pv 1) (pa_cons (pe_op op_addF (pe_ix ix_F (pv 1) (pe_un un_neg pe_int) (fun _ _ => rfl)) (pe_callTy call_intF' (by rfl) T.n_int (by decide +kernel) (pa_cons (pv 2) pa_nil))) pa_nil)))))
      (pss_one (ps_ret (pv 1)))))), ?_⟩
    walk_at "go"
    refine ⟨_, _, rfl, rfl, trip_sz hT, isTrip_of hT, fun H1 S1 => ?_⟩
    walk_at "go"
    refine new_in fun p H2 hp S2 h2 => ?_
    walk_at "go"
    refine lp_str l (fun i σ H' => ∃ v, σ = [some (.str (sL l)), some (.ref p), v] ∧ Same H1 H' ∧ H' p = some (.lst (((List.range (i + 1)).map (wayTo l)).map V.int))) ⟨none, rfl, S2, h2⟩ ?_ ?_
    · rintro i c σ H' hc ⟨v, rfl, S3, h3⟩
      have hi : i < l.length := (List.getElem?_eq_some_iff.mp hc).1
      have hd := hT.2 c (List.mem_of_getElem? hc)
      walk_at "go"
      rw [h3]
      have ea : atI (((List.range (i + 1)).map (wayTo l)).map V.int) (-1) = some (.int (wayTo l i)) := by
        rw [at_last, range_snoc, List.map_append, List.length_append, List.getElem?_append_right (by simp)]
        simp
      walk_at "go"
      rw [ea]
      walk_at "go"
      rw [int_dig hd]
      walk_at "go"
      rw [h3]
      walk_at "go"
      simp only [List.length_map, List.length_range]
      refine ⟨by omega, ⟨some (.str (sL [c])), rfl, sm_mut S3 hp, ?_⟩⟩
      rw [upd_same, range_snoc (i + 1), List.map_append, wayTo_next hc]
      rfl
    · rintro σ H' ⟨v, rfl, S3, h3⟩
      walk_at "go"
      exact k p H' (S1.trans S3) (S1.free hp) h3
abbrev s_way_of : Stmt := top 9
theorem sc_way_of : FnScope ["trip"] ["trip"] (defScope s_way_of) := ⟨rfl, rfl, rfl, by decide +kernel, rfl, by decide +kernel, by decide +kernel⟩
def sp_way_of : Sp := fun vs H Q _ => ∃ l, vs = [.str (sL l)] ∧ Trip l ∧ ∀ H', Same H H' → Q (.int (wayTo l l.length)) H'
theorem ok_way_of (D : Df K mg "way_of" s_way_of ["trip"]) (F_ways_of : Fn P w K mg base "ways_of" 3 ["trip"] sp_ways_of) (T : Txt K mg) : Fn P w K mg base "way_of" 4 ["trip"] sp_way_of := by
  refine D.ok sc_way_of (fun vs H Q E h => ?_) (fun f cdv A outer s H vs Q E hr h => ?_)
  · obtain ⟨l, rfl, _⟩ := h
    rfl
  · obtain ⟨l, rfl, hT, k⟩ := h
    refine ⟨_, (pss_one (ps_ret (pe_ix ix_F (pe_fn F_ways_of (hr.mono (by decide)) rfl (pa_cons (pv 0) pa_nil)) (pe_un un_neg pe_int) (fun _ _ => rfl)))), ?_⟩
    walk_at "go"
    refine ⟨l, rfl, hT, fun p H1 S1 hp h1 => ?_⟩
    have ea : atI ((waysL l).map V.int) (-1) = some (.int (wayTo l l.length)) := by
      unfold waysL
      rw [at_last, range_snoc, List.map_append, List.length_append, List.getElem?_append_right (by simp)]
      simp
    walk_at "go"
    rw [h1]
    walk_at "go"
    rw [ea]
    exact k H1 S1
def fastL (l : List Nat) : List Int := 0 :: l.map dv
abbrev s_fastest : Stmt := top 10
theorem sc_fastest : FnScope ["trip", "digit"] ["trip"] (defScope s_fastest) := ⟨rfl, rfl, rfl, by decide +kernel, rfl, by decide +kernel, by decide +kernel⟩
def sp_fastest : Sp := fun vs H Q _ => ∃ l, vs = [.str (sL l)] ∧ Trip l ∧ ∀ m H', Same H H' → m ∈ fastL l → (∀ y ∈ fastL l, y ≤ m) → Q (.int m) H'
theorem ok_fastest (D : Df K mg "fastest" s_fastest ["trip"]) (F_check_trip : Fn P w K mg base "check_trip" 2 ["trip"] sp_check_trip) (T : Txt K mg) : Fn P w K mg base "fastest" 3 ["trip"] sp_fastest := by
  refine D.ok sc_fastest (fun vs H Q E h => ?_) (fun f cdv A outer s H vs Q E hr h => ?_)
  · obtain ⟨l, rfl, _⟩ := h
    rfl
  · obtain ⟨l, rfl, hT, k⟩ := h
    have hl := hT.1
    refine ⟨_, (pss_cons (ps_expr (pe_fn F_check_trip (hr.mono (by decide)) rfl (pa_cons (pv 0) pa_nil)))
      (pss_one (ps_ret (pe_callB (call_maxF rfl) (by rfl) T.n_max (by decide +kernel) (pa_cons (pe_lst (pa_cons pe_int (pa_starF (pe_lc (own := [("digit", 1)]) (g := (gName 1)) rfl sc_fastest.nd (pi_str (pv 0)) (blkOk_by (own := [("digit", 1)]) (N := ["trip", "digit"]) (sc := defScope s_fastest) (by decide +kernel)) (fun _ _ _ _ _ => (pg_name (i := 1) sc_fastest.nd rfl (Or.inl rfl))) (fun _ _ _ _ _ => pts_nil) (fun _ _ _ _ _ => (pe_callTy call_intF' (by rfl) T.n_int (by decide +kernel) (pa_cons (pv 1) pa_nil)))) pa_nil))) pa_nil))))), ?_⟩
    walk_at "go"
    refine ⟨_, _, rfl, rfl, trip_sz hT, isTrip_of hT, fun H1 S1 => ?_⟩
    walk_at "go"
    intro D hD
    refine lpc_gen (walkS l) rfl hD (by omega) (fun c => some (.int (dv c))) (fun H' => Same H1 H') (Same.refl _) (fun H o h => sm_mut h hD) (fun _ _ => trivial) ?_ ?_
    · rintro c H2 N M hc S2 ⟨acc, ha, hN, hM⟩
      walk_at "go"
      rw [int_dig (hT.2 c hc)]
      walk_at "go"
      exact hN _ _ rfl S2 ha
    · intro H2 S2 h2
      rw [fm_int] at h2
      walk_at "go"
      rw [h2]
      walk_at "go"
      simp only [List.length_map]
      refine ⟨by omega, ?_⟩
      refine new_in fun q H3 hq S3 h3 => ?_
      walk_at "go"
      rw [h3, show V.int 0 :: (l.map dv).map V.int = (fastL l).map V.int from rfl]
      walk_at "go"
      refine ⟨by show 0 < (l.map dv).length + 1; omega, fun m h4 h5 => k m H3 (S1.trans (S2.trans S3)) h4 h5⟩
def stopsL (l : List Nat) : List (Nat × Nat) := (runs l).filterMap fun r => if r.1 = 48 then some (r.2.1, r.2.2) else none
def tPair (r : Nat × Nat) : List V := [.int (r.1 : Int), .int (r.2 : Int)]
abbrev s_stops : Stmt := top 12
theorem sc_stops : FnScope ["trip", "digit", "begin", "end"] ["trip"] (defScope s_stops) := ⟨rfl, rfl, rfl, by decide +kernel, rfl, by decide +kernel, by decide +kernel⟩
def sp_stops : Sp := fun vs H Q _ => ∃ l, vs = [.str (sL l)] ∧ Trip l ∧ ∀ p xs H', Same H H' → H p = none → H' p = some (.lst xs) → TupAt H' tPair xs (stopsL l) → Q (.ref p) H'
theorem zip_fm2 {α β : Type} (g : α → Option β) : ∀ (rs : List α) (xs : List V), rs.length = xs.length → (rs.zip xs).filterMap (fun b => g b.1) = rs.filterMap g
  | [], _, _ => by simp
  | r :: rs, [], h => by simp at h
  | r :: rs, x :: xs, h => by
    rw [List.zip_cons_cons, List.filterMap_cons, List.filterMap_cons, zip_fm2 g rs xs (by simpa using h)]
theorem ok_stops (D : Df K mg "stops" s_stops ["trip"]) (F_stretches_of : Fn P w K mg base "stretches_of" 3 ["trip"] sp_stretches_of) (T : Txt K mg) : Fn P w K mg base "stops" 4 ["trip"] sp_stops := by
  refine D.ok sc_stops (fun vs H Q E h => ?_) (fun f cdv A outer s H vs Q E hr h => ?_)
  · obtain ⟨l, rfl, _⟩ := h
    rfl
  · obtain ⟨l, rfl, hT, k⟩ := h
    have hl := hT.1
    have I := rf_inv hT l.length (Nat.le_refl _)
    refine ⟨_, (pss_one (ps_ret (pe_lc (own := [("digit", 1), ("begin", 2), ("end", 3)]) (g := (gTupF 3 (gCons (gName 1) (gCons (gName 2) (gCons (gName 3) gNil))))) rfl sc_stops.nd (pi_list (pe_fn F_stretches_of (hr.mono (by decide)) rfl (pa_cons (pv 0) pa_nil))) (blkOk_by (own := [("digit", 1), ("begin", 2), ("end", 3)]) (N := ["trip", "digit", "begin", "end"]) (sc := defScope s_stops) (by decide +kernel)) (fun _ _ _ _ _ => (pg_tupF rfl (pgs_cons (pg_name (i := 1) sc_stops.nd rfl (Or.inl rfl)) (pgs_cons (pg_name (i := 2) sc_stops.nd rfl (Or.inl rfl)) (pgs_cons (pg_name (i := 3) sc_stops.nd rfl (Or.inl rfl)) pgs_nil))))) (fun _ _ _ _ _ => (pts_one (pt_cmpR (op_eqX (K := K) hr.units) (pv 1) pe_str (nomark _)))) (fun _ _ _ _ _ => (pe_tup (pa_cons (pv 2) (pa_cons (pv 3) pa_nil))))))), ?_⟩
    walk_at "go"
    refine ⟨l, rfl, hT, fun p xs H1 S1 hp h1 t1 => ?_⟩
    have hlen := t1.len
    have hfew : (runs l).length ≤ l.length := I.few
    walk_at "go"
    refine ⟨⟨_, SqL.of h1⟩, fun D hD => ?_⟩
    refine lpc_tup (walkQ t1) rfl hD (by rw [List.length_zip]; omega) (fun b => if b.1.1 = 48 then some (b.1.2.1, b.1.2.2) else none) tPair (fun H' => Same H1 H') (Same.refl _) (fun H o h => sm_mut h hD) (fun H' S => S _ _ h1) ?_ ?_
    · rintro ⟨r, x⟩ H2 N M hb S2 ⟨acc, ha, hN, hM⟩
      obtain ⟨hr1, a, hxa, hq⟩ := t1.mem hb
      have hxa : x = .ref a := hxa
      subst hxa
      have hq : H1 a = some (.tup (tRun r)) := hq
      obtain ⟨c, b, e⟩ := r
      walk_at "go"
      rw [S2 _ _ hq]
      unfold tRun
      walk_at "go"
      refine ite2 (fun h5 => ?_) (fun h5 => ?_)
      · have h5 : c = 48 := List.head_eq_of_cons_eq (sL_inj h5)
        walk_at "go"
        refine new_in fun q H3 hq3 S3 h3 => ?_
        exact hN (b, e) q H3 (if_pos h5) (S2.trans S3) S3 h3
      · have h5 : ¬ c = 48 := fun z => h5 (by rw [z])
        exact hM H2 (if_neg h5) S2 (Same.refl _)
    · intro H3 ys S3 h3 t3
      rw [zip_fm2 (fun r : Nat × Nat × Nat => if r.1 = 48 then some (r.2.1, r.2.2) else none) _ _ hlen.symm] at t3
      exact k D ys H3 (S1.trans S3) (S1.free hD) h3 t3
end

/-! ### the law's own stops -/
def zr (t : Nat) (bg : Option Nat) : List Nat → List (Nat × Nat)
  | [] => match bg with | some b => [(b, t)] | none => []
  | c :: r => if c = 48 then zr (t + 1) (some (bg.getD t)) r else (match bg with | some b => (b, t) :: zr (t + 1) none r | none => zr (t + 1) none r)
theorem zr_z {c t : Nat} {bg : Option Nat} {r : List Nat} (h : c = 48) : zr t bg (c :: r) = zr (t + 1) (some (bg.getD t)) r := by
  show (if c = 48 then _ else _) = _
  rw [if_pos h]
theorem zr_n {c t : Nat} {r : List Nat} (h : ¬ c = 48) : zr t none (c :: r) = zr (t + 1) none r := by
  show (if c = 48 then _ else _) = _
  rw [if_neg h]
theorem zr_s {c t b : Nat} {r : List Nat} (h : ¬ c = 48) : zr t (some b) (c :: r) = (b, t) :: zr (t + 1) none r := by
  show (if c = 48 then _ else _) = _
  rw [if_neg h]
def zf (rs : List (Nat × Nat × Nat)) : List (Nat × Nat) := rs.filterMap fun r => if r.1 = 48 then some (r.2.1, r.2.2) else none
theorem zf_snoc (rs : List (Nat × Nat × Nat)) (c b e : Nat) : zf (rs ++ [(c, b, e)]) = zf rs ++ (if c = 48 then [(b, e)] else []) := by
  unfold zf
  rw [List.filterMap_append]
  by_cases h : c = 48
  · simp [h]
  · simp [h]
def bgOf (l : List Nat) (b : Nat) : Option Nat := if l.getD b 0 = 48 then some b else none
theorem drop_get {l : List Nat} {i : Nat} (h : i < l.length) : l.drop i = l.getD i 0 :: l.drop (i + 1) := by
  rw [List.drop_eq_getElem_cons h]
  congr 1
  have := getD_of h
  rw [List.getElem?_eq_getElem h] at this
  exact Option.some.inj this
theorem zr_rf {l : List Nat} (hT : Trip l) : ∀ i, i < l.length → zf (rf l i).1 ++ zr (i + 1) (bgOf l (rf l i).2) (l.drop (i + 1)) = zr 0 none l
  | 0, h => by
    have e := drop_get h
    rw [List.drop_zero] at e
    show [] ++ zr 1 (bgOf l 0) (l.drop 1) = _
    rw [List.nil_append]
    conv => rhs; rw [e]
    unfold bgOf
    show _ = (if l.getD 0 0 = 48 then _ else _)
    by_cases h0 : l.getD 0 0 = 48
    · rw [if_pos h0, if_pos h0]
      rfl
    · rw [if_neg h0, if_neg h0]
  | i + 1, h => by
    have ih := zr_rf hT i (by omega)
    have I := rf_inv hT i (by omega)
    have hb : (rf l i).2 ≤ i := I.le
    rw [← ih]
    show zf (rst l (rf l i) (i + 1)).1 ++ zr (i + 2) (bgOf l (rst l (rf l i) (i + 1)).2) (l.drop (i + 2)) = _
    rw [drop_get h]
    generalize rf l i = st at hb
    obtain ⟨rs, b⟩ := st
    have hb : b ≤ i := hb
    have hc0 := getD_of (show b < l.length by omega)
    have hd0 := getD_of h
    have hbg : ∀ x, bgOf l x = if l.getD x 0 = 48 then some x else none := fun _ => rfl
    show _ = zf rs ++ (if l.getD (i + 1) 0 = 48 then zr (i + 2) (some ((bgOf l b).getD (i + 1))) (l.drop (i + 2)) else (match bgOf l b with | some b => (b, i + 1) :: zr (i + 2) none (l.drop (i + 2)) | none => zr (i + 2) none (l.drop (i + 2))))
    by_cases hc : i + 1 = l.length ∨ l[i + 1]? ≠ l[b]?
    · have hne : l.getD (i + 1) 0 ≠ l.getD b 0 := fun z => by
        rcases hc with hc | hc
        · omega
        · rw [hc0, hd0, z] at hc
          exact hc rfl
      have hr : rst l (rs, b) (i + 1) = (rs ++ [(l.getD b 0, b, i + 1)], i + 1) := if_pos hc
      rw [hr]
      show zf (rs ++ [(l.getD b 0, b, i + 1)]) ++ zr (i + 2) (bgOf l (i + 1)) _ = _
      rw [zf_snoc, hbg, hbg, List.append_assoc]
      by_cases h1 : l.getD b 0 = 48
      · have h2 : ¬ l.getD (i + 1) 0 = 48 := fun z => hne (z.trans h1.symm)
        simp only [if_pos h1, if_neg h2]
        rfl
      · simp only [if_neg h1]
        by_cases h2 : l.getD (i + 1) 0 = 48
        · simp only [if_pos h2]
          rfl
        · simp only [if_neg h2]
          rfl
    · have hr : rst l (rs, b) (i + 1) = (rs, b) := if_neg hc
      have heq : l.getD (i + 1) 0 = l.getD b 0 := by
        apply Decidable.byContradiction
        intro z
        refine hc (.inr fun q => z ?_)
        rw [hc0, hd0] at q
        exact Option.some.inj q
      rw [hr, hbg, heq]
      by_cases h1 : l.getD b 0 = 48
      · simp only [if_pos h1]
        rfl
      · simp only [if_neg h1]
theorem stops_zr {l : List Nat} (hT : Trip l) : stopsL l = zr 0 none l := by
  by_cases h : l = []
  · subst h
    rfl
  · have hp : 0 < l.length := List.length_pos_iff.mpr h
    obtain ⟨n, hn⟩ : ∃ n, l.length = n + 1 := ⟨l.length - 1, by omega⟩
    have e := zr_rf hT n (by omega)
    rw [← e]
    show zf (rf l l.length).1 = _
    rw [hn, List.drop_of_length_le (by omega)]
    show zf (rst l (rf l n) (n + 1)).1 = _
    generalize rf l n = st
    obtain ⟨rs, b⟩ := st
    have hr : rst l (rs, b) (n + 1) = (rs ++ [(l.getD b 0, b, n + 1)], n + 1) := if_pos (.inl hn.symm)
    rw [hr]
    show zf (rs ++ [(l.getD b 0, b, n + 1)]) = zf rs ++ zr (n + 1) (bgOf l b) []
    rw [zf_snoc]
    unfold bgOf
    by_cases h1 : l.getD b 0 = 48
    · simp only [if_pos h1]
      rfl
    · simp only [if_neg h1]
      rfl
theorem zr_len : ∀ (l : List Nat) (t : Nat) (bg : Option Nat), (zr t bg l).length ≤ l.length + 1
  | [], t, bg => by
    cases bg <;> simp [zr]
  | c :: r, t, bg => by
    have h1 := zr_len r (t + 1) (some (bg.getD t))
    have h2 := zr_len r (t + 1) none
    unfold zr
    by_cases h : c = 48
    · rw [if_pos h]
      simp only [List.length_cons]
      omega
    · rw [if_neg h]
      cases bg with
      | none =>
        simp only [List.length_cons]
        omega
      | some b =>
        simp only [List.length_cons]
        omega
def bgV : Option Nat → V
  | none => .non
  | some b => .int (b : Int)
section
variable {P : Program} {w : World} {K : PySem.W.Frag} {mg : Str → Option Value} {base : Heap}
abbrev s_law_stops : Stmt := top 18
theorem sc_law_stops : FnScope ["_law_trip", "_law_found", "_law_begin", "_law_tick"] ["_law_trip"] (defScope s_law_stops) := ⟨rfl, rfl, rfl, by decide +kernel, rfl, by decide +kernel, by decide +kernel⟩
def sp_law_stops : Sp := fun vs H Q _ => ∃ l, vs = [.str (sL l)] ∧ Trip l ∧ ∀ p xs H', Same H H' → H p = none → H' p = some (.lst xs) → TupAt H' tPair xs (stopsL l) → Q (.ref p) H'
theorem ok_law_stops (D : Df K mg "_law_stops" s_law_stops ["_law_trip"]) (T : Txt K mg) : Fn P w K mg base "_law_stops" 1 ["_law_trip"] sp_law_stops := by
  refine D.ok sc_law_stops (fun vs H Q E h => ?_) (fun f cdv A outer s H vs Q E hr h => ?_)
  · obtain ⟨l, rfl, _⟩ := h
    rfl
  · obtain ⟨l, rfl, hT, k⟩ := h
    have hl := hT.1
    refine ⟨_, (pss_cons (ps_set (i := 1) sc_law_stops.nd rfl (Or.inl rfl) (pe_lst pa_nil))
      (pss_cons (ps_set (i := 2) sc_law_stops.nd rfl (Or.inl rfl) pe_non)
      (pss_cons (ps_for PassesOwn.never rfl (pi_range1 (by rfl) T.n_range (pa_cons (pe_callB call_lenF (by rfl) T.n_len (by decide +kernel) (pa_cons (pv 0) pa_nil)) pa_nil)) (pg_name (i := 3) sc_law_stops.nd rfl (Or.inl rfl)) (pss_cons (ps_if (PW.pt (pw_and (pt_cmpR (op_eqX (K := K) hr.units) (pe_ix ix_F (pv 0) (pv 3) (fun _ _ => rfl)) pe_str (nomark _)) (pw_and1 (pt_cmpR op_isN1 (pv 2) pe_non (nomark _))))) (pss_one (ps_set (i := 2) sc_law_stops.nd rfl (Or.inl rfl) (pv 3))) pss_nil)
      (pss_one (ps_if (PW.pt (pw_and (pt_cmpR (op_neX (K := K) hr.units) (pe_ix ix_F (pv 0) (pv 3) (fun _ _ => rfl)) pe_str (nomark _)) (pw_and1 (pt_cmpR op_notN1 (pv 2) pe_non (nomark _))))) (pss_cons (ps_expr (pe_lm PySem.F.slot_list_append PySem.F.type_list_append mt_appF (pv 1) (pa_cons (pe_tup (pa_cons (pv 2) (pa_cons (pv 3) pa_nil))) pa_nil)))
      (pss_one (ps_set (i := 2) sc_law_stops.nd rfl (Or.inl rfl) pe_non))) pss_nil))))
      (pss_cons (ps_if (pt_cmpR op_notN1 (pv 2) pe_non (nomark _)) (pss_one (ps_expr (pe_lm PySem.F.slot_list_append PySem.F.type_list_append mt_appF (pv 1) (pa_cons (pe_tup (pa_cons (pv 2) (pa_cons (pe_callB call_lenF (by rfl) T.n_len (by decide +kernel) (pa_cons (pv 0) pa_nil)) pa_nil))) pa_nil)))) pss_nil)
      (pss_one (ps_ret (pv 1))))))), ?_⟩
    walk_at "go"
    refine new_in fun p H2 hp S2 h2 => ?_
    walk_at "go"
    refine lp_range (fun i σ H' => ∃ xs fs bg v, σ = [some (.str (sL l)), some (.ref p), some (bgV bg), v] ∧ Same H H' ∧ H' p = some (.lst xs) ∧ TupAt H' tPair xs fs ∧ fs ++ zr i bg (l.drop i) = zr 0 none l) ⟨[], [], none, none, rfl, S2, h2, trivial, rfl⟩ ?_ ?_
    · rintro i σ H' hi ⟨xs, fs, bg, v, rfl, S3, h3, t3, z3⟩
      have hc0 := getD_of hi
      have e0 : (0 : Int) + (i : Int) = (i : Int) := by omega
      have hxl : xs.length ≤ 2001 := by
        have h1 := zr_len l 0 none
        rw [← z3, List.length_append] at h1
        have h2 := t3.len
        omega
      rw [drop_get hi] at z3
      rw [e0]
      walk_at "go"
      simp only [hc0]
      generalize l.getD i 0 = c at *
      have es : (sL [c] = sL [48]) ↔ c = 48 := ⟨fun q => List.head_eq_of_cons_eq (sL_inj q), fun q => by rw [q]⟩
      walk_at "go"
      simp only [es]
      by_cases hc : c = 48
      · rw [zr_z hc] at z3
        cases bg with
        | none =>
          simp only [hc, bgV]
          walk_at "go"
          exact ⟨xs, fs, some i, some (.int (i : Int)), rfl, S3, h3, t3, z3⟩
        | some b =>
          simp only [hc, bgV]
          walk_at "go"
          exact ⟨xs, fs, some b, some (.int (i : Int)), rfl, S3, h3, t3, z3⟩
      · cases bg with
        | none =>
          rw [zr_n hc] at z3
          simp only [hc, bgV]
          walk_at "go"
          exact ⟨xs, fs, none, some (.int (i : Int)), rfl, S3, h3, t3, z3⟩
        | some b =>
          rw [zr_s hc] at z3
          simp only [hc, bgV, h3]
          walk_at "go"
          refine new_in fun a H4 ha S4 h4 => ?_
          walk_at "go"
          rw [S4 _ _ h3]
          walk_at "go"
          refine ⟨xs ++ [.ref a], fs ++ [(b, i)], none, some (.int (i : Int)), rfl, sm_mut (S3.trans S4) hp, upd_same, ?_, ?_⟩
          · exact (TupAt.snoc (r := (b, i)) h4 (t3.mono (same_tup S4))).mono fun q ys hq => by
              rw [upd_ne (ne_of hq (S4 _ _ h3) (by intro z; cases z))]
              exact hq
          · rw [List.append_assoc]
            exact z3
    · rintro σ H' ⟨xs, fs, bg, v, rfl, S3, h3, t3, z3⟩
      rw [List.drop_length] at z3
      have hxl : xs.length ≤ 2001 := by
        have h1 := zr_len l 0 none
        rw [← z3, List.length_append] at h1
        have h2 := t3.len
        omega
      walk_at "go"
      cases bg with
      | none =>
        simp only [bgV]
        walk_at "go"
        have z3 : fs ++ [] = zr 0 none l := z3
        rw [List.append_nil, ← stops_zr hT] at z3
        rw [z3] at t3
        exact k p xs H' S3 hp h3 t3
      | some b =>
        simp only [bgV, h3]
        walk_at "go"
        refine new_in fun a H4 ha S4 h4 => ?_
        walk_at "go"
        rw [S4 _ _ h3]
        walk_at "go"
        have z3 : fs ++ [(b, l.length)] = zr 0 none l := z3
        rw [← stops_zr hT] at z3
        refine k p (xs ++ [.ref a]) _ (sm_mut (S3.trans S4) hp) hp upd_same ?_
        rw [← z3]
        exact (TupAt.snoc (r := (b, l.length)) h4 (t3.mono (same_tup S4))).mono fun q ys hq => by
          rw [upd_ne (ne_of hq (S4 _ _ h3) (by intro z; cases z))]
          exact hq
end

section
variable {P : Program} {w : World} {K : PySem.W.Frag} {mg : Str → Option Value} {base : Heap}
def pairD (r : Nat × Nat) : PyData := .tuple [.int (r.1 : Int), .int (r.2 : Int)]
theorem dp_pairs {H : Hp} {p : Addr} {xs : List V} {rs : List (Nat × Nat)} (h : H p = some (.lst xs)) (t : TupAt H tPair xs rs) : Dp K H (.ref p) (.list (rs.map pairD)) :=
  .lst (SqL.of h) (dpAll_tup (g := fun r : Nat × Nat => [.int (r.1 : Int), .int (r.2 : Int)]) (fun _ => .cons (.int _) (.cons (.int _) .nil)) t)
theorem ok_pairs (rs : List (Nat × Nat)) : okD 2 (.list (rs.map pairD)) := ok_list fun d hd => by
  obtain ⟨r, _, rfl⟩ := List.mem_map.mp hd
  refine ok_tup fun e he => ?_
  simp only [List.mem_cons, List.not_mem_nil, or_false] at he
  rcases he with rfl | rfl <;> exact ok_int 0 _
abbrev s_law_trip_right : Stmt := top 19
theorem sc_law_trip_right : FnScope ["_law_bag_here", "_law_trip", "_law_ways", "_law_question", "_law_shown", "_law_tick", "_law_digit"] ["_law_bag_here", "_law_trip"] (defScope s_law_trip_right) := ⟨rfl, rfl, rfl, by decide +kernel, rfl, by decide +kernel, by decide +kernel⟩
def sp_law_trip_right : Sp := fun vs H Q _ => ∃ (b sp : Addr) (l : List Nat), vs = [.ref b, .str (sL l)] ∧ Bag H b sp ∧ Trip l ∧ ∀ H', Bag H' b sp → Kp b H H' → Q (.bl true) H'
theorem ok_law_trip_right (D : Df K mg "_law_trip_right" s_law_trip_right ["_law_bag_here", "_law_trip"]) (F_law_mixed : Fn P w K mg base "_law_mixed" 2 ["_law_bag_here", "_law_items"] sp_law_mixed) (F_law_stops : Fn P w K mg base "_law_stops" 1 ["_law_trip"] sp_law_stops)
    (F_way_of : Fn P w K mg base "way_of" 4 ["trip"] sp_way_of) (F_ways_of : Fn P w K mg base "ways_of" 3 ["trip"] sp_ways_of) (F_fastest : Fn P w K mg base "fastest" 3 ["trip"] sp_fastest) (F_stops : Fn P w K mg base "stops" 4 ["trip"] sp_stops) (T : Txt K mg) :
    Fn P w K mg base "_law_trip_right" 5 ["_law_bag_here", "_law_trip"] sp_law_trip_right := by
  refine D.ok sc_law_trip_right (fun vs H Q E h => ?_) (fun f cdv A outer s H vs Q E hr h => ?_)
  · obtain ⟨b, sp, l, rfl, _⟩ := h
    rfl
  · obtain ⟨b, sp, l, rfl, B, hT, k⟩ := h
    have hl := hT.1
    refine ⟨_, (pss_cons (ps_setLc (i := 2) (own := [("_law_tick", 5)]) (g := (gName 5)) rfl sc_law_trip_right.nd rfl rfl (sw_true rfl rfl rfl (by decide +kernel)) (pi_range1 (by rfl) T.n_range (pa_cons (pe_op op_addF (pe_callB call_lenF (by rfl) T.n_len (by decide +kernel) (pa_cons (pv 1) pa_nil)) pe_int) pa_nil)) (blkOk_by (own := [("_law_tick", 5)]) (N := ["_law_bag_here", "_law_trip", "_law_ways", "_law_question", "_law_shown", "_law_tick", "_law_digit"]) (sc := defScope s_law_trip_right) (by decide +kernel)) (fun _ _ _ _ _ => (pg_name (i := 5) sc_law_trip_right.nd rfl (Or.inl rfl))) (fun _ _ _ _ _ => pts_nil) (fun _ _ _ _ _ => (pe_callB (call_sumF rfl) (by rfl) T.n_sum (by decide +kernel) (pa_cons (pe_lc (own := [("_law_digit", 6)]) (g := (gName 6)) rfl sc_law_trip_right.nd (pi_str (pe_slice sl_F (pv 1) po_none (po_some (pv 5)))) (blkOk_by (own := [("_law_digit", 6)]) (N := ["_law_bag_here", "_law_trip", "_law_ways", "_law_question", "_law_shown", "_law_tick", "_law_digit"]) (by rfl)) (fun _ _ _ _ _ => (pg_name (i := 6) sc_law_trip_right.nd rfl (Or.inl rfl))) (fun _ _ _ _ _ => pts_nil) (fun _ _ _ _ _ => (pe_callTy call_intF' (by rfl) T.n_int (by decide +kernel) (pa_cons (pv 6) pa_nil)))) pa_nil))))
      (pss_cons (ps_for PassesOwn.never rfl (pi_list (pe_fn F_law_mixed (hr.mono (by decide)) rfl (pa_cons (pv 0) (pa_cons (pe_lst (pa_cons pe_int (pa_cons pe_int (pa_cons pe_int (pa_cons pe_int (pa_cons pe_int (pa_cons pe_int pa_nil))))))) pa_nil)))) (pg_name (i := 3) sc_law_trip_right.nd rfl (Or.inl rfl)) (pss_cons (ps_if (PW.pt (pw_and (pt_cmpR (op_eqX (K := K) hr.units) (pv 3) pe_int (nomark _)) (pw_and1 (pt_cmpR (op_neX (K := K) hr.units) (pe_fn F_way_of (hr.mono (by decide)) rfl (pa_cons (pv 1) pa_nil)) (pe_ix ix_F (pv 2) (pe_un un_neg pe_int) (fun _ _ => rfl)) (nomark _))))) (pss_one (ps_ret pe_bl)) pss_nil)
      (pss_cons (ps_if (pt_cmpR (op_eqX (K := K) hr.units) (pv 3) pe_int (nomark _)) (pss_cons (ps_set (i := 4) sc_law_trip_right.nd rfl (Or.inl rfl) (pe_fn F_ways_of (hr.mono (by decide)) rfl (pa_cons (pv 1) pa_nil)))
      (pss_cons (ps_if (pt_cmpR (op_neX (K := K) hr.units) (pv 4) (pv 2) (nomark _)) (pss_one (ps_ret pe_bl)) pss_nil)
      (pss_one (ps_expr (pe_lm0 PySem.F.slot_list_clear PySem.F.type_list_clear mt_clearF (pv 4)))))) pss_nil)
      (pss_cons (ps_if (PW.pt (pw_and (pt_cmpR (op_eqX (K := K) hr.units) (pv 3) pe_int (nomark _)) (pw_and1 (pt_cmpR (op_neX (K := K) hr.units) (pe_fn F_fastest (hr.mono (by decide)) rfl (pa_cons (pv 1) pa_nil)) (pe_callB (call_maxF rfl) (by rfl) T.n_max (by decide +kernel) (pa_cons (pe_op op_addF (pe_lst (pa_cons pe_int pa_nil)) (pe_lc (own := [("_law_digit", 6)]) (g := (gName 6)) rfl sc_law_trip_right.nd (pi_str (pv 1)) (blkOk_by (own := [("_law_digit", 6)]) (N := ["_law_bag_here", "_law_trip", "_law_ways", "_law_question", "_law_shown", "_law_tick", "_law_digit"]) (sc := defScope s_law_trip_right) (by decide +kernel)) (fun _ _ _ _ _ => (pg_name (i := 6) sc_law_trip_right.nd rfl (Or.inl rfl))) (fun _ _ _ _ _ => pts_nil) (fun _ _ _ _ _ => (pe_callTy call_intF' (by rfl) T.n_int (by decide +kernel) (pa_cons (pv 6) pa_nil))))) pa_nil)) (nomark _))))) (pss_one (ps_ret pe_bl)) pss_nil)
      (pss_one (ps_if (pt_cmpR (op_eqX (K := K) hr.units) (pv 3) pe_int (nomark _)) (pss_cons (ps_set (i := 4) sc_law_trip_right.nd rfl (Or.inl rfl) (pe_fn F_stops (hr.mono (by decide)) rfl (pa_cons (pv 1) pa_nil)))
      (pss_cons (ps_if (pt_cmpR (op_neX (K := K) hr.units) (pv 4) (pe_fn F_law_stops (hr.mono (by decide)) rfl (pa_cons (pv 1) pa_nil)) (nomark _)) (pss_one (ps_ret pe_bl)) pss_nil)
      (pss_one (ps_expr (pe_lm PySem.F.slot_list_append PySem.F.type_list_append mt_appF (pv 4) (pa_cons (pe_tup (pa_cons pe_int (pa_cons pe_int pa_nil))) pa_nil)))))) pss_nil))))))
      (pss_one (ps_ret pe_bl)))), ?_⟩
    walk_at "go"
    intro D hD
    rw [show ((l.length : Int) + 1).toNat = l.length + 1 by omega]
    have nD := B.ne hD
    refine lpc_gen (walkR 0 (l.length + 1)) rfl hD (by rw [List.length_range]; omega) (fun i => some (.int (wayTo l i))) (fun H' => Same H H') (Same.refl _) (fun H o h => sm_mut h hD) (fun _ _ => trivial) ?_ ?_
    · rintro i H2 N M hi S2 ⟨acc, ha, hN, hM⟩
      rw [show (0 : Int) + (i : Int) = (i : Int) by omega]
      walk_at "go"
      rw [cut_to]
      intro D2 hD2
      have htl : (l.take i).length ≤ 2000 := by
        rw [List.length_take]
        omega
      refine lpc_gen (walkS (l.take i)) rfl hD2 (by omega) (fun c => some (.int (dv c))) (fun H' => Same H2 H') (Same.refl _) (fun H o h => sm_mut h hD2) (fun _ _ => trivial) ?_ ?_
      · rintro c H3 N2 M2 hc S3 ⟨acc2, ha2, hN2, hM2⟩
        walk_at "go"
        rw [int_dig (hT.2 c (List.mem_of_mem_take hc))]
        walk_at "go"
        exact hN2 _ _ rfl S3 ha2
      · intro H3 S3 h3
        rw [fm_int] at h3
        walk_at "go"
        rw [h3]
        walk_at "go"
        exact hN _ _ rfl (S2.trans S3) (S3 _ _ ha)
    · intro H2 S2 h2
      have h2 : H2 D = some (.lst ((waysL l).map V.int)) := by
        rw [h2, fm_int]
        rfl
      have ea : atI ((waysL l).map V.int) (-1) = some (.int (wayTo l l.length)) := by
        unfold waysL
        rw [at_last, range_snoc, List.map_append, List.length_append, List.getElem?_append_right (by simp)]
        simp
      walk_at "go"
      refine new_in fun it H3 hit S3 h3 => ?_
      have B3 := (B.same S2).same S3
      have nit := (B.same S2).ne hit
      walk_at "go"
      refine ⟨b, sp, it, _, rfl, B3, h3, nit.1, by decide, fun q ys H4 hq h4 hP B4 K4 => ?_⟩
      have nq := B3.ne hq
      have h4D := K4 _ _ nD.1 (S3 _ _ h2)
      walk_at "go"
      refine ⟨⟨_, SqL.of h4⟩, ?_⟩
      have K4' : Kp b H H4 := (Kp.of_same (S2.trans S3)).trans K4
      refine lp_list ys (fun i σ H' => ∃ v3 v4, σ = [some (.ref b), some (.str (sL l)), some (.ref D), v3, v4, none, none] ∧ Bag H' b sp ∧ H' q = some (.lst ys) ∧ H' D = some (.lst ((waysL l).map V.int)) ∧ Kp b H H') ⟨_, _, rfl, B4, h4, h4D, K4'⟩ ?_ ?_ ?_
      · rintro i σ H' hi ⟨_, _, _, _, h, _⟩
        exact h
      · rintro i x σ H' hx ⟨v3, v4, rfl, B5, h5, h5D, K5⟩
        have hm : x ∈ [V.int 0, V.int 1, V.int 2, V.int 3, V.int 1, V.int 3] := hP.mem_iff.mp (List.mem_of_getElem? hx)
        have hm : x = .int 0 ∨ x = .int 1 ∨ x = .int 2 ∨ x = .int 3 := by
          simp only [List.mem_cons, List.not_mem_nil, or_false] at hm
          rcases hm with h | h | h | h | h | h
          · exact .inl h
          · exact .inr (.inl h)
          · exact .inr (.inr (.inl h))
          · exact .inr (.inr (.inr h))
          · exact .inr (.inl h)
          · exact .inr (.inr (.inr h))
        have fin : ∀ v3 v4 H6, Same H' H6 → ∃ v3' v4', [some (V.ref b), some (.str (sL l)), some (.ref D), v3, v4, none, none] = [some (.ref b), some (.str (sL l)), some (.ref D), v3', v4', none, none] ∧ Bag H6 b sp ∧ H6 q = some (.lst ys) ∧ H6 D = some (.lst ((waysL l).map V.int)) ∧ Kp b H H6 := fun v3 v4 H6 S6 =>
          ⟨v3, v4, rfl, B5.same S6, S6 _ _ h5, S6 _ _ h5D, K5.trans (Kp.of_same S6)⟩
        rcases hm with rfl | rfl | rfl | rfl
        · walk_at "go"
          refine ⟨l, rfl, hT, fun H6 S6 => ?_⟩
          walk_at "go"
          rw [S6 _ _ h5D]
          walk_at "go"
          rw [ea]
          walk_at "go"
          exact fin _ _ H6 S6
        · walk_at "go"
          refine ⟨l, rfl, hT, fun p H6 S6 hp h6 => ?_⟩
          walk_at "go"
          refine sd_same (dp_ints h6) (dp_ints (S6 _ _ h5D)) (ok_ints _) (by decide) ?_
          walk_at "go"
          rw [h6]
          walk_at "go"
          exact fin _ _ _ (sm_mut S6 hp)
        · walk_at "go"
          refine ⟨l, rfl, hT, fun m H6 S6 hm1 hm2 => ?_⟩
          walk_at "go"
          refine new_in fun p H7 hp S7 h7 => ?_
          walk_at "go"
          intro D3 hD3
          refine lpc_gen (walkS l) rfl hD3 (by omega) (fun c => some (.int (dv c))) (fun H' => Same H7 H') (Same.refl _) (fun H o h => sm_mut h hD3) (fun _ _ => trivial) ?_ ?_
          · rintro c H8 N2 M2 hc S8 ⟨acc2, ha2, hN2, hM2⟩
            walk_at "go"
            rw [int_dig (hT.2 c hc)]
            walk_at "go"
            exact hN2 _ _ rfl S8 ha2
          · intro H8 S8 h8
            rw [fm_int] at h8
            walk_at "go"
            rw [S8 _ _ h7, h8]
            walk_at "go"
            simp only [List.length_map]
            refine ⟨by omega, ?_⟩
            refine new_in fun q2 H9 hq2 S9 h9 => ?_
            walk_at "go"
            rw [h9, show V.int 0 :: (l.map dv).map V.int = (fastL l).map V.int from rfl]
            walk_at "go"
            refine ⟨by show 0 < (l.map dv).length + 1; omega, fun m2 h41 h42 => ?_⟩
            have em : m = m2 := Int.le_antisymm (h42 m hm1) (hm2 m2 h41)
            subst em
            walk_at "go"
            exact fin _ _ H9 (S6.trans (S7.trans (S8.trans S9)))
        · walk_at "go"
          refine ⟨l, rfl, hT, fun p xs H6 S6 hp h6 t6 => ?_⟩
          walk_at "go"
          refine ⟨l, rfl, hT, fun p2 xs2 H7 S7 hp2 h7 t7 => ?_⟩
          walk_at "go"
          refine sd_same (dp_pairs (S7 _ _ h6) (t6.mono (same_tup S7))) (dp_pairs h7 t7) (ok_pairs _) (by decide) ?_
          walk_at "go"
          rw [S7 _ _ h6]
          walk_at "go"
          refine new_in fun p3 H8 hp3 S8 h8 => ?_
          walk_at "go"
          rw [S8 _ _ (S7 _ _ h6)]
          walk_at "go"
          have hx := t6.len
          have hs2 : (stopsL l).length ≤ 2001 := by
            rw [stops_zr hT]
            have := zr_len l 0 none
            omega
          refine ⟨by omega, ?_⟩
          exact fin _ _ _ (sm_mut (S6.trans (S7.trans S8)) hp)
      · rintro σ H' ⟨v3, v4, rfl, B5, h5, h5D, K5⟩
        walk_at "go"
        exact k H' B5 K5
abbrev s_law : Stmt := top 20
theorem sc_law : FnScope ["_law_script", "_law_bag_here", "_law_trips", "_law_turn", "_law_long_trip"] ["_law_script"] (defScope s_law) := ⟨rfl, rfl, rfl, by decide +kernel, rfl, by decide +kernel, by decide +kernel⟩
theorem ok_law (D : Df K mg "law" s_law ["_law_script"]) (F_law_bag : Fn P w K mg base "_law_bag" 1 ["_law_script"] (sp_law_bag K)) (F_law_draw : Fn P w K mg base "_law_draw" 1 ["_law_bag_here", "_law_size"] sp_law_draw)
    (F_law_drawn_trip : Fn P w K mg base "_law_drawn_trip" 2 ["_law_bag_here", "_law_most", "_law_top"] sp_law_drawn_trip) (F_law_trip_right : Fn P w K mg base "_law_trip_right" 5 ["_law_bag_here", "_law_trip"] sp_law_trip_right)
    (F_way_of : Fn P w K mg base "way_of" 4 ["trip"] sp_way_of) (F_ways_of : Fn P w K mg base "ways_of" 3 ["trip"] sp_ways_of) (F_fastest : Fn P w K mg base "fastest" 3 ["trip"] sp_fastest) (F_stops : Fn P w K mg base "stops" 4 ["trip"] sp_stops) (T : Txt K mg) : Fn P w K mg base "law" 6 ["_law_script"] (sp_law K) := by
  refine D.ok sc_law (fun vs H Q E h => ?_) (fun f cdv A outer s H vs Q E hr h => ?_)
  · obtain ⟨a, ns, rfl, _⟩ := h
    rfl
  · obtain ⟨a, ns, rfl, hS, k⟩ := h
    refine ⟨_, (pss_cons (ps_set (i := 1) sc_law.nd rfl (Or.inl rfl) (pe_fn F_law_bag (hr.mono (by decide)) rfl (pa_cons (pv 0) pa_nil)))
      (pss_cons (ps_set (i := 2) sc_law.nd rfl (Or.inl rfl) (pe_lst (pa_cons (pe_fn F_law_drawn_trip (hr.mono (by decide)) rfl (pa_cons (pv 1) (pa_cons pe_int (pa_cons pe_int pa_nil)))) (pa_cons (pe_op op_addF (pe_op op_addF (pe_fn F_law_drawn_trip (hr.mono (by decide)) rfl (pa_cons (pv 1) (pa_cons pe_int (pa_cons pe_int pa_nil)))) pe_str) (pe_fn F_law_drawn_trip (hr.mono (by decide)) rfl (pa_cons (pv 1) (pa_cons pe_int (pa_cons pe_int pa_nil))))) pa_nil))))
      (pss_cons (ps_for PassesOwn.never rfl (pi_list (pe_lst (pa_cons pe_int (pa_cons pe_int (pa_cons pe_int pa_nil))))) (pg_name (i := 3) sc_law.nd rfl (Or.inl rfl)) (pss_one (ps_if (pt_not (pt_val (pe_fn F_law_trip_right (hr.mono (by decide)) rfl (pa_cons (pv 1) (pa_cons (pe_ix ix_F (pv 2) (pv 3) (fun _ _ => rfl)) pa_nil))))) (pss_one (ps_ret pe_bl)) pss_nil)))
      (pss_cons (ps_set (i := 4) sc_law.nd rfl (Or.inl rfl) (pe_op op_addF (pe_op op_mulF pe_str pe_int) (pe_op op_mulF pe_str pe_int)))
      (pss_cons (ps_if (PW.pt (pw_or (pt_cmpR (op_neX (K := K) hr.units) (pe_fn F_way_of (hr.mono (by decide)) rfl (pa_cons (pv 4) pa_nil)) pe_int (nomark _)) (pw_or (pt_cmpR (op_neX (K := K) hr.units) (pe_callB call_lenF (by rfl) T.n_len (by decide +kernel) (pa_cons (pe_fn F_stops (hr.mono (by decide)) rfl (pa_cons (pv 4) pa_nil)) pa_nil)) pe_int (nomark _)) (pw_or1 (pt_cmpR (op_neX (K := K) hr.units) (pe_ix ix_F (pe_fn F_ways_of (hr.mono (by decide)) rfl (pa_cons (pv 4) pa_nil)) (pe_un un_neg pe_int) (fun _ _ => rfl)) pe_int (nomark _)))))) (pss_one (ps_ret pe_bl)) pss_nil)
      (pss_one (ps_ret (pe_and (pe_cmpR (op_eqX (K := K) hr.units) (pe_fn F_fastest (hr.mono (by decide)) rfl (pa_cons pe_str pa_nil)) pe_int (nomark _)) (pe_and (pe_cmpR (op_eqX (K := K) hr.units) (pe_fn F_stops (hr.mono (by decide)) rfl (pa_cons pe_str pa_nil)) (pe_lst pa_nil) (nomark _)) (pe_and (pe_cmpR (op_eqX (K := K) hr.units) (pe_fn F_ways_of (hr.mono (by decide)) rfl (pa_cons pe_str pa_nil)) (pe_lst (pa_cons pe_int pa_nil)) (nomark _)) (pe_one (pe_cmpR (op_eqX (K := K) hr.units) (pe_fn F_way_of (hr.mono (by decide)) rfl (pa_cons pe_str pa_nil)) pe_int (nomark _))))))))))))), ?_⟩
    walk_at "go"
    refine ⟨a, ns, rfl, hS, fun b sp H1 S1 _ _ B1 => ?_⟩
    walk_at "go"
    refine ⟨b, sp, 60, 9, rfl, B1, by decide, by decide, fun l1 H2 hl1 hd1 B2 K2 => ?_⟩
    walk_at "go"
    refine ⟨b, sp, 30, 3, rfl, B2, by decide, by decide, fun l2 H3 hl2 hd2 B3 K3 => ?_⟩
    walk_at "go"
    refine ⟨b, sp, 9, 9, rfl, B3, by decide, by decide, fun l3 H4 hl3 hd3 B4 K4 => ?_⟩
    walk_at "go"
    refine new_in fun p H5 hp S5 h5 => ?_
    have np := B4.ne hp
    have hT1 : Trip l1 := ⟨by omega, fun c hc => digB_iff.mpr (by have := hd1 c hc; omega)⟩
    have hT2 : Trip (l2 ++ [48, 48, 48] ++ l3) := by
      refine ⟨by simp only [List.length_append, List.length_cons, List.length_nil]; omega, fun c hc => digB_iff.mpr ?_⟩
      rcases List.mem_append.mp hc with hc | hc
      · rcases List.mem_append.mp hc with hc | hc
        · have := hd2 c hc
          omega
        · simp only [List.mem_cons, List.not_mem_nil, or_false] at hc
          omega
      · have := hd3 c hc
        omega
    walk_at "go"
    refine new_in fun q H6 hq S6 h6 => ?_
    have nq := (B4.same S5).ne hq
    walk_at "go"
    refine ⟨⟨_, SqL.of h6⟩, ?_⟩
    refine lp_list [V.int 0, V.int 1, V.int 0] (fun i σ H' => ∃ v, σ = [some (.ref a), some (.ref b), some (.ref p), v, none] ∧ Bag H' b sp ∧ H' p = some (.lst [.str (sL l1), .str (sL (l2 ++ [48, 48, 48] ++ l3))]) ∧ H' q = some (.lst [.int 0, .int 1, .int 0])) ⟨_, rfl, (B4.same S5).same S6, S6 _ _ h5, h6⟩ ?_ ?_ ?_
    · rintro i σ H' hi ⟨_, _, _, _, h⟩
      exact h
    · rintro i x σ H' hx ⟨v, rfl, B7, h7, h8⟩
      obtain ⟨l, j, rfl, hj, hl, hT⟩ : ∃ l j, x = .int j ∧ (0 : Int) ≤ j ∧ [V.str (sL l1), V.str (sL (l2 ++ [48, 48, 48] ++ l3))][j.toNat]? = some (.str (sL l)) ∧ Trip l := by
        have hm := List.mem_of_getElem? hx
        simp only [List.mem_cons, List.not_mem_nil, or_false] at hm
        rcases hm with rfl | rfl | rfl
        · exact ⟨l1, 0, rfl, by decide, rfl, hT1⟩
        · exact ⟨_, 1, rfl, by decide, rfl, hT2⟩
        · exact ⟨l1, 0, rfl, by decide, rfl, hT1⟩
      walk_at "go"
      rw [h7]
      simp only [f_at1, at_nn hj, hl]
      refine ⟨b, sp, l, rfl, B7, hT, fun H8 B8 K8 => ?_⟩
      walk_at "go"
      exact ⟨_, rfl, B8, K8 _ _ np.1 h7, K8 _ _ nq.1 h8⟩
    · rintro σ H' ⟨v, rfl, B7, h7, h8⟩
      walk_at "go"
      have hw : Trip (repL [48, 53] 900 ++ repL [48] 200) := ⟨by decide +kernel, by decide +kernel⟩
      have hw2 : wayTo (repL [48, 53] 900 ++ repL [48] 200) (repL [48, 53] 900 ++ repL [48] 200).length = 4500 := by decide +kernel
      have hw3 : (stopsL (repL [48, 53] 900 ++ repL [48] 200)).length = 901 := by
        rw [stops_zr hw]
        decide +kernel
      have ea : ∀ l : List Nat, atI ((waysL l).map V.int) (-1) = some (.int (wayTo l l.length)) := fun l => by
        unfold waysL
        rw [at_last, range_snoc, List.map_append, List.length_append, List.getElem?_append_right (by simp)]
        simp
      have h0 : Trip [] := ⟨by decide, fun c hc => by cases hc⟩
      refine ⟨by decide +kernel, ?_⟩
      rw [sL_app]
      refine ⟨_, rfl, hw, fun H8 S8 => ?_⟩
      rw [hw2]
      walk_at "go"
      refine ⟨_, rfl, hw, fun p3 xs3 H9 S9 hp3 h9 t9 => ?_⟩
      walk_at "go"
      rw [h9]
      walk_at "go"
      rw [t9.len, hw3]
      walk_at "go"
      refine ⟨_, rfl, hw, fun p4 H10 S10 hp4 h10 => ?_⟩
      walk_at "go"
      rw [h10]
      walk_at "go"
      rw [ea, hw2]
      walk_at "go"
      refine ⟨[], rfl, h0, fun m H11 S11 hm1 hm2 => ?_⟩
      have hm0 : m = 0 := List.mem_singleton.mp hm1
      subst hm0
      walk_at "go"
      refine ⟨[], rfl, h0, fun p5 xs5 H12 S12 hp5 h12 t12 => ?_⟩
      walk_at "go"
      refine new_in fun p6 H13 hp6 S13 h13 => ?_
      walk_at "go"
      refine sd_same (d := .list []) (n := 1) ?_ ?_ (ok_list fun d hd => by cases hd) (by decide) ?_
      · exact dp_pairs (S13 _ _ h12) (t12.mono (same_tup S13))
      · exact .lst (SqL.of h13) .nil
      walk_at "go"
      refine ⟨[], rfl, h0, fun p7 H14 S14 hp7 h14 => ?_⟩
      walk_at "go"
      refine new_in fun p8 H15 hp8 S15 h15 => ?_
      walk_at "go"
      refine sd_same (dp_ints (S15 _ _ h14)) (dp_ints (ns := [0]) h15) (ok_ints _) (by decide) ?_
      walk_at "go"
      refine ⟨[], rfl, h0, fun H16 S16 => ?_⟩
      rw [show wayTo [] ([] : List Nat).length = 0 from rfl]
      walk_at "go"
      exact k H16
end

end CM

open PySem PySem.W PyProof.Rows in
set_option maxRecDepth 100000 in
set_option maxHeartbeats 0 in
theorem PySem.Challenge.cw_cabmeters_k13_ways_and_stops_holds : PySem.Challenge.rw_cabmeters_k13_ways_and_stops.Holds := by
  w_on; o_law; k_head; (case hw => w_witness2)
  k_fill
  refine CM.walkF (l := PySem.Challenge.rw_cabmeters_k13_ways_and_stops) CM.s_law 6 rfl rfl ⟨rfl, by decide, by decide⟩ rfl (fun w h Y => PySem.W.kIn_of Y) ?F
  case F =>
    intro w mg h KX G
    have n_isinstance : mg "isinstance" = none := by
      refine' PySem.W.mg_none_of KX G ?z
      (case z => k_is)
    have n_str : mg "str" = none := by
      refine' PySem.W.mg_none_of KX G ?z
      (case z => k_is)
    have n_int : mg "int" = none := by
      refine' PySem.W.mg_none_of KX G ?z
      (case z => k_is)
    have n_list : mg "list" = none := by
      refine' PySem.W.mg_none_of KX G ?z
      (case z => k_is)
    have n_len : mg "len" = none := by
      refine' PySem.W.mg_none_of KX G ?z
      (case z => k_is)
    have n_all : mg "all" = none := by
      refine' PySem.W.mg_none_of KX G ?z
      (case z => k_is)
    have n_abs : mg "abs" = none := by
      refine' PySem.W.mg_none_of KX G ?z
      (case z => k_is)
    have n_min : mg "min" = none := by
      refine' PySem.W.mg_none_of KX G ?z
      (case z => k_is)
    have n_max : mg "max" = none := by
      refine' PySem.W.mg_none_of KX G ?z
      (case z => k_is)
    have n_sum : mg "sum" = none := by
      refine' PySem.W.mg_none_of KX G ?z
      (case z => k_is)
    have n_range : mg "range" = none := by
      refine' PySem.W.mg_none_of KX G ?z
      (case z => k_is)
    have g_MOST_TICKS : ∃ t, mg "MOST_TICKS" = some (.int 2000 t) := by
      refine' CM.const_mk KX G ?z ?e
      (case z => k_is)
      (case e => exact ⟨_, rfl⟩)
    have g_DIGITS : ∃ t, mg "DIGITS" = some (.str "0123456789" t) := by
      refine' CM.const_mk KX G ?z ?e
      (case z => k_is)
      (case e => exact ⟨_, rfl⟩)
    have T : ∀ K, CM.Txt K mg := fun K => ⟨n_isinstance, n_str, n_int, n_list, n_len, n_all, n_abs, n_min, n_max, n_sum, n_range, g_MOST_TICKS, g_DIGITS⟩
    have D_is_trip : CM.DfOf KX mg "is_trip" CM.s_is_trip ["value"] := by
      refine' CM.df_mk KX G ?a ?l ?c ?k ?b
      (case a => k_is)
      (case l => k_is)
      (case c => k_is)
      (case k => k_is)
      (case b => exact fun _ _ _ _ _ _ us hl => match us, hl with | [_], _ => rfl)
    have D_check_trip : CM.DfOf KX mg "check_trip" CM.s_check_trip ["trip"] := by
      refine' CM.df_mk KX G ?a ?l ?c ?k ?b
      (case a => k_is)
      (case l => k_is)
      (case c => k_is)
      (case k => k_is)
      (case b => exact fun _ _ _ _ _ _ us hl => match us, hl with | [_], _ => rfl)
    have D_ways_of : CM.DfOf KX mg "ways_of" CM.s_ways_of ["trip"] := by
      refine' CM.df_mk KX G ?a ?l ?c ?k ?b
      (case a => k_is)
      (case l => k_is)
      (case c => k_is)
      (case k => k_is)
      (case b => exact fun _ _ _ _ _ _ us hl => match us, hl with | [_], _ => rfl)
    have D_way_of : CM.DfOf KX mg "way_of" CM.s_way_of ["trip"] := by
      refine' CM.df_mk KX G ?a ?l ?c ?k ?b
      (case a => k_is)
      (case l => k_is)
      (case c => k_is)
      (case k => k_is)
      (case b => exact fun _ _ _ _ _ _ us hl => match us, hl with | [_], _ => rfl)
    have D_fastest : CM.DfOf KX mg "fastest" CM.s_fastest ["trip"] := by
      refine' CM.df_mk KX G ?a ?l ?c ?k ?b
      (case a => k_is)
      (case l => k_is)
      (case c => k_is)
      (case k => k_is)
      (case b => exact fun _ _ _ _ _ _ us hl => match us, hl with | [_], _ => rfl)
    have D_stretches_of : CM.DfOf KX mg "stretches_of" CM.s_stretches_of ["trip"] := by
      refine' CM.df_mk KX G ?a ?l ?c ?k ?b
      (case a => k_is)
      (case l => k_is)
      (case c => k_is)
      (case k => k_is)
      (case b => exact fun _ _ _ _ _ _ us hl => match us, hl with | [_], _ => rfl)
    have D_stops : CM.DfOf KX mg "stops" CM.s_stops ["trip"] := by
      refine' CM.df_mk KX G ?a ?l ?c ?k ?b
      (case a => k_is)
      (case l => k_is)
      (case c => k_is)
      (case k => k_is)
      (case b => exact fun _ _ _ _ _ _ us hl => match us, hl with | [_], _ => rfl)
    have D_law_bag : CM.DfOf KX mg "_law_bag" CM.s_law_bag ["_law_script"] := by
      refine' CM.df_mk KX G ?a ?l ?c ?k ?b
      (case a => k_is)
      (case l => k_is)
      (case c => k_is)
      (case k => k_is)
      (case b => exact fun _ _ _ _ _ _ us hl => match us, hl with | [_], _ => rfl)
    have D_law_draw : CM.DfOf KX mg "_law_draw" CM.s_law_draw ["_law_bag_here", "_law_size"] := by
      refine' CM.df_mk KX G ?a ?l ?c ?k ?b
      (case a => k_is)
      (case l => k_is)
      (case c => k_is)
      (case k => k_is)
      (case b => exact fun _ _ _ _ _ _ us hl => match us, hl with | [_, _], _ => rfl)
    have D_law_mixed : CM.DfOf KX mg "_law_mixed" CM.s_law_mixed ["_law_bag_here", "_law_items"] := by
      refine' CM.df_mk KX G ?a ?l ?c ?k ?b
      (case a => k_is)
      (case l => k_is)
      (case c => k_is)
      (case k => k_is)
      (case b => exact fun _ _ _ _ _ _ us hl => match us, hl with | [_, _], _ => rfl)
    have D_law_drawn_trip : CM.DfOf KX mg "_law_drawn_trip" CM.s_law_drawn_trip ["_law_bag_here", "_law_most", "_law_top"] := by
      refine' CM.df_mk KX G ?a ?l ?c ?k ?b
      (case a => k_is)
      (case l => k_is)
      (case c => k_is)
      (case k => k_is)
      (case b => exact fun _ _ _ _ _ _ us hl => match us, hl with | [_, _, _], _ => rfl)
    have D_law_stops : CM.DfOf KX mg "_law_stops" CM.s_law_stops ["_law_trip"] := by
      refine' CM.df_mk KX G ?a ?l ?c ?k ?b
      (case a => k_is)
      (case l => k_is)
      (case c => k_is)
      (case k => k_is)
      (case b => exact fun _ _ _ _ _ _ us hl => match us, hl with | [_], _ => rfl)
    have D_law_trip_right : CM.DfOf KX mg "_law_trip_right" CM.s_law_trip_right ["_law_bag_here", "_law_trip"] := by
      refine' CM.df_mk KX G ?a ?l ?c ?k ?b
      (case a => k_is)
      (case l => k_is)
      (case c => k_is)
      (case k => k_is)
      (case b => exact fun _ _ _ _ _ _ us hl => match us, hl with | [_, _], _ => rfl)
    have D_law : CM.LawOf KX mg CM.s_law := by
      refine' CM.law_mk KX G ?a ?l ?c ?k ?b
      (case a => k_is)
      (case l => k_is)
      (case c => k_is)
      (case k => k_is)
      (case b => exact fun _ _ _ _ _ _ us hl => match us, hl with | [_], _ => rfl)
    refine ⟨D_law, fun base _ _ => ?_⟩
    have F_is_trip := CM.ok_is_trip D_is_trip (T _) (P := (PySem.Challenge.rw_cabmeters_k13_ways_and_stops).prog) (w := w) (base := base)
    have F_check_trip := CM.ok_check_trip D_check_trip F_is_trip (T _) (P := (PySem.Challenge.rw_cabmeters_k13_ways_and_stops).prog) (w := w) (base := base)
    have F_ways_of := CM.ok_ways_of D_ways_of F_check_trip (T _) (P := (PySem.Challenge.rw_cabmeters_k13_ways_and_stops).prog) (w := w) (base := base)
    have F_way_of := CM.ok_way_of D_way_of F_ways_of (T _) (P := (PySem.Challenge.rw_cabmeters_k13_ways_and_stops).prog) (w := w) (base := base)
    have F_fastest := CM.ok_fastest D_fastest F_check_trip (T _) (P := (PySem.Challenge.rw_cabmeters_k13_ways_and_stops).prog) (w := w) (base := base)
    have F_stretches_of := CM.ok_stretches_of D_stretches_of F_check_trip (T _) (P := (PySem.Challenge.rw_cabmeters_k13_ways_and_stops).prog) (w := w) (base := base)
    have F_stops := CM.ok_stops D_stops F_stretches_of (T _) (P := (PySem.Challenge.rw_cabmeters_k13_ways_and_stops).prog) (w := w) (base := base)
    have F_law_bag := CM.ok_law_bag D_law_bag (T _) (P := (PySem.Challenge.rw_cabmeters_k13_ways_and_stops).prog) (w := w) (base := base)
    have F_law_draw := CM.ok_law_draw D_law_draw (T _) (P := (PySem.Challenge.rw_cabmeters_k13_ways_and_stops).prog) (w := w) (base := base)
    have F_law_mixed := CM.ok_law_mixed D_law_mixed F_law_draw (T _) (P := (PySem.Challenge.rw_cabmeters_k13_ways_and_stops).prog) (w := w) (base := base)
    have F_law_drawn_trip := CM.ok_law_drawn_trip D_law_drawn_trip F_law_draw (T _) (P := (PySem.Challenge.rw_cabmeters_k13_ways_and_stops).prog) (w := w) (base := base)
    have F_law_stops := CM.ok_law_stops D_law_stops (T _) (P := (PySem.Challenge.rw_cabmeters_k13_ways_and_stops).prog) (w := w) (base := base)
    have F_law_trip_right := CM.ok_law_trip_right D_law_trip_right F_law_mixed F_law_stops F_way_of F_ways_of F_fastest F_stops (T _) (P := (PySem.Challenge.rw_cabmeters_k13_ways_and_stops).prog) (w := w) (base := base)
    exact CM.ok_law D_law.df F_law_bag F_law_draw F_law_drawn_trip F_law_trip_right F_way_of F_ways_of F_fastest F_stops (T _)
#print axioms PySem.Challenge.cw_cabmeters_k13_ways_and_stops_holds

