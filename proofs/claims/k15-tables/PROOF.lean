import PyProof.Rows.All
import Wide.All
import OpenK.AllK
import Wide.FinOn
import HandS.ForMost
import HandS.Walk
import HandS.FStr
import HandS.Style
import HandS.IsInst
import HandS.Steps
import HandS.Star
import HandS.Defaults
import HandS.CallLocal
import HandS.SortRule
import HandS.Conv
import HandS.Lambda
import HandS.Nested
import HandS.ForExc
import HandS.Deep
import HandS.TupLen
import HandS.DictComp
import HandS.TupAny
import HandS.CallSlots
import HandS.ExcInit
import HandS.ExcField
import HandS.TryMany
import HandS.Property
import HandS.ClsMeth
import HandS.MakeKwOnly
import KE.KCallOwn
import HandS.EndTab
import KE.KNestM
import KE.KEqDict
import PySem.Challenge.RW_cabmeters_k15_tables_of_worths
set_option Elab.async false
set_option maxRecDepth 100000
set_option maxHeartbeats 4000000
set_option linter.unusedVariables false
namespace CM
open PySem PySem.Spec PyProof.Rows L2
section
variable {X : Cx}
theorem pe_gstr {x z : Str} {pos : Pos} (h : ∃ t, X.mg x = some (.str z t)) (hg : Gl X x := by rfl) (hd : (x == ("__debug__" : Str)) = false := by decide) : PE X (.Name x pos) (tC (.str z)) := by
  obtain ⟨t, h⟩ := h
  exact pe_glob hg h ⟨t, rfl⟩ hd
theorem pe_gint {x : Str} {z : Int} {pos : Pos} (h : ∃ t, X.mg x = some (.int z t)) (hg : Gl X x := by rfl) (hd : (x == ("__debug__" : Str)) = false := by decide) : PE X (.Name x pos) (tC (.int z)) := by
  obtain ⟨t, h⟩ := h
  exact pe_glob hg h ⟨t, rfl⟩ hd
theorem pe_ty {x : Str} {T : String} {pos : Pos} (h : X.mg x = none) (hv : bootBuiltins x = some (.type T) := by decide +kernel) (hg : Gl X x := by rfl) (hn : x ≠ "__name__" := by decide) (hd : (x == ("__debug__" : Str)) = false := by decide) : PE X (.Name x pos) (tC (.ty T)) :=
  pe_bltn hg h hv rfl hn hd

/-! ### texts as lists of signs -/
abbrev tl (x : Str) : List Nat := x.cps.toList
abbrev sL (l : List Nat) : Str := ⟨l.toArray⟩
theorem sL_tl (z : Str) : sL (tl z) = z := TL.mk_tl z
theorem tl_sL (l : List Nat) : tl (sL l) = l := rfl
theorem len_sL (l : List Nat) : (sL l).length = l.length := by simp [Str.length]
theorem len_tl (z : Str) : z.length = (tl z).length := TL.len_tl z
theorem sL_inj {l m : List Nat} (h : sL l = sL m) : l = m := by
  have e := congrArg tl h
  exact e
theorem sL_app (l m : List Nat) : sL l ++ sL m = sL (l ++ m) := TL.ext_tl (by rw [TL.tl_append])

/-- text * number -/
def repL (l : List Nat) (n : Nat) : List Nat := (List.replicate n l).flatten
theorem foldl_app (z : List Nat) : ∀ (n : Nat) (a : Array Nat), ((List.replicate n z.toArray).foldl (· ++ ·) a).toList = a.toList ++ repL z n
  | 0, a => by simp [repL]
  | n + 1, a => by
    rw [List.replicate_succ, List.foldl_cons, foldl_app z n, Array.toList_append]
    simp [repL, List.replicate_succ]
theorem repL_one (z : List Nat) : repL z 1 = z := by simp [repL]
theorem repL_nil (n : Nat) : repL [] n = [] := by
  induction n with
  | zero => rfl
  | succ n ih => simp [repL, List.replicate_succ]
theorem mul_eq (z : List Nat) (n : Nat) : Txt.mul (sL z) (n : Int) = sL (repL z n) := by
  unfold Txt.mul
  by_cases h : (n : Int) < 1
  · have e : n = 0 := by omega
    subst e
    rw [if_pos h]
    rfl
  · rw [if_neg h]
    by_cases h2 : (((n : Int) == 1) || (sL z).length == 0) = true
    · rw [if_pos h2]
      rcases Bool.or_eq_true _ _ ▸ h2 with h3 | h3
      · have e : n = 1 := by
          have := eq_of_beq h3
          omega
        subst e
        rw [repL_one]
      · have e : z = [] := by
          have := eq_of_beq h3
          rw [len_sL] at this
          exact List.length_eq_zero_iff.mp this
        subst e
        rw [repL_nil]
    · rw [if_neg h2]
      refine TL.ext_tl ?_
      show ((List.replicate ((n : Int)).toNat z.toArray).foldl (· ++ ·) #[]).toList = repL z n
      rw [foldl_app, Int.toNat_natCast]
      rfl
def rMulS : R2 := fun x y H Q => ∃ (l : List Nat) (n : Nat), x = .str (sL l) ∧ y = .int (n : Int) ∧ l.length * n ≤ 16777216 ∧ n ≤ 16777216 ∧ Q (.str (sL (repL l n))) H
theorem mulOk {l : List Nat} {n : Nat} (h : l.length * n ≤ 16777216) (h2 : n ≤ 16777216) : MulOk (sL l) (n : Int) := by
  refine ⟨?_, fun h0 _ => ?_, fun h0 _ => ?_⟩
  · rw [decide_eq_false (by omega), decide_eq_false (by omega)]
    rfl
  · rw [len_sL]
    intro hgt
    have h3 : (l.length : Int) * (n : Int) ≤ 16777216 := by
      rw [← Int.natCast_mul]
      exact Int.ofNat_le.mpr h
    have h4 : ((2 : Int) ^ 63 - 1) / n * n > (2 : Int) ^ 63 - 1 - n := by
      have a := Int.emod_add_mul_ediv ((2 : Int) ^ 63 - 1) (n : Int)
      rw [Int.mul_comm] at a
      have b := Int.emod_lt_of_pos ((2 : Int) ^ 63 - 1) (show (0 : Int) < n by omega)
      omega
    have h5 : (l.length : Int) * n ≥ ((2 : Int) ^ 63 - 1) / n * n := Int.mul_le_mul_of_nonneg_right (by omega) (by omega)
    omega
  · rw [len_sL, Int.toNat_natCast]
    exact decide_eq_false (by have : sizeLine ≥ 16777216 := by decide
                              omega)
theorem op_mulS : OpR X (binaryOp .Mult) rMulS := by
  intro pins s σ H x y v u Q I rx ry h
  obtain ⟨l, n, rfl, rfl, hz, h2, q⟩ := h
  obtain ⟨t, rfl⟩ := rx
  obtain ⟨t', rfl⟩ := ry
  rw [← mul_eq] at q
  exact SB.mul (mulOk hz h2) (fun t' k => ⟨.str _, H, I.tok _, ⟨_, rfl⟩, q⟩)
end

/-! ### defs as they stand behind the top -/
structure Df (K : PySem.W.Frag) (mg : Str → Option Value) (x : Str) (st : Stmt) (ps : List Str) : Prop where
  ex : ∃ f fd, mg x = some (.ref f) ∧ Fun K x x st f fd ∧ Binds K fd ps []
structure Fn (P : Program) (w : World) (K : PySem.W.Frag) (mg : Str → Option Value) (base : Heap) (x : Str) (k : Nat) (ps : List Str) (sp : Sp) : Prop where
  ex : ∃ f fd, mg x = some (.ref f) ∧ FnOk P w K mg base CX0 k f fd ps sp ∧ PySem.W.keepIn K (.ref f) = true ∧ Binds K fd ps [] ∧ ∃ oc od osl, K.lookup f = some ⟨oc, od, .func fd, osl⟩
section
variable {P : Program} {w : World} {K : PySem.W.Frag} {mg : Str → Option Value} {base : Heap}
theorem Df.ok {x : Str} {st : Stmt} {N ps : List Str} {k : Nat} {sp : Sp} (D : Df K mg x st ps) (S : FnScope N ps (defScope st)) (len : ∀ vs H Q E, sp vs H Q E → vs.length = ps.length)
    (hbody : ∀ (f : Addr) (cdv : Value) (A : Around) (outer : List Env) (s : Shared) (H : Hp) (vs : List V) (Q : VK) (E : XK), Room k (A.deeper (envOfC x (defScope st) s.heap.objs.size f cdv)) → sp vs H Q E →
      ∃ t, PSs (cxOf CX0 P w K mg base N x (defScope st) f cdv A outer s H E).nox (defBody st) t ∧ t { nx := fun _ H' => Q .non H', rt := Q } (start N vs) H) : Fn P w K mg base x (k + 1) ps sp := by
  obtain ⟨f, fd, h1, F, b⟩ := D.ex
  obtain ⟨oc, od, kV, doc, pm, an, cdv, ct, osl, e1, lk, hcd⟩ := F.ex
  exact ⟨f, fd, h1, F.ok S len (hbody f), F.kp, b, oc, od, osl, lk⟩
theorem Fn.imp {x : Str} {ps : List Str} {k : Nat} {sp sp' : Sp} (F : Fn P w K mg base x k ps sp) (h : ∀ vs H Q E, sp' vs H Q E → sp vs H Q E) : Fn P w K mg base x k ps sp' := by
  obtain ⟨f, fd, h1, G, h2, b⟩ := F.ex
  exact ⟨f, fd, h1, G.imp h, h2, b⟩
end
section
variable {X : Cx} {x : Str} {k : Nat} {ps : List Str} {sp : Sp} {e : Expr} {es : List Expr} {t : TA} {p pos : Pos}
theorem pe_fn (F : Fn X.prog X.w X.K X.mg X.base x k ps sp) (hr : Room k X.A) (hg : Gl X x) (ha : PA X (e :: es) t) (hdb : (x == ("__debug__" : Str)) = false := by decide)
    (he : starEach (e :: es) X.env = (false, eval e X.env) :: starEach es X.env := by rfl) (hpl : (backTo pos (starEach es X.env)).any (·.1) = false := by rfl) :
    PE X (.Call (.Name x p) (e :: es) [] pos) (tCall sp [] E0 t) := by
  obtain ⟨f, fd, h1, G, h2, b, _⟩ := F.ex
  exact pe_call G hr hg h1 h2 b .nil pass0 ha hdb he hpl
theorem pe_fn0 (F : Fn X.prog X.w X.K X.mg X.base x k ps sp) (hr : Room k X.A) (hg : Gl X x) (hdb : (x == ("__debug__" : Str)) = false := by decide) : PE X (.Call (.Name x p) [] [] pos) (tCall sp [] E0 tNil) := by
  obtain ⟨f, fd, h1, G, h2, b, _⟩ := F.ex
  exact pe_call0 G hr hg h1 h2 b .nil pass0 hdb
end

/-! ### heaps -/
theorem sm_new {H : Hp} {p : Addr} {o : HO} (h : H p = none) : Same H (upd H p o) := fun b u e => by
  rw [upd_ne (ne_of_none e h)]
  exact e
theorem sm_mut {H H' : Hp} {p : Addr} {o : HO} (e : Same H H') (h : H p = none) : Same H (upd H' p o) := fun b u hb => by
  rw [upd_ne (ne_of_none hb h)]
  exact e b u hb
theorem sm_seqT {K : PySem.W.Frag} {H H' : Hp} {a : Addr} {xs : List V} (e : Same H H') (h : SqT K H a xs) : SqT K H' a xs := by
  rcases h with (h | ⟨o, h⟩) | h
  · exact .inl (.inl (e _ _ h))
  · exact .inl (.inr ⟨o, e _ _ h⟩)
  · exact .inr h
/-- all but b is as it was -/
def Kp (b : Addr) (H H' : Hp) : Prop := ∀ q o, q ≠ b → H q = some o → H' q = some o
theorem Kp.refl (b : Addr) (H : Hp) : Kp b H H := fun _ _ _ h => h
theorem Kp.trans {b : Addr} {H H1 H2 : Hp} (a : Kp b H H1) (c : Kp b H1 H2) : Kp b H H2 := fun q o n h => c q o n (a q o n h)
theorem Kp.of_same {b : Addr} {H H1 : Hp} (a : Same H H1) : Kp b H H1 := fun q o _ h => a q o h
theorem Kp.put {b : Addr} {H : Hp} {o : HO} : Kp b H (upd H b o) := fun q u n h => by
  rw [upd_ne n]
  exact h
theorem Kp.mut {b : Addr} {H H' : Hp} {p : Addr} {o : HO} (e : Kp b H H') (h : H p = none) : Kp b H (upd H' p o) := fun q u n hq => by
  rw [upd_ne (ne_of_none hq h)]
  exact e q u n hq
theorem Kp.free {b : Addr} {H H' : Hp} (e : Kp b H H') {l : Addr} (hb : l ≠ b) (h : H' l = Option.none) : H l = Option.none := by
  cases q : H l with
  | none => rfl
  | some o =>
    rw [e l o hb q] at h
    cases h
end CM

/-! readings as functions of the values and of what stands in the heap -/
namespace CM
open PySem PySem.Spec PyProof.Rows L2

/-! ### operators -/
def addO (a b : Option HO) (H : Hp) (Q : VK) : Prop := match a, b with
  | some (.lst xs), some (.lst ys) => xs.length + ys.length ≤ 16777216 ∧ ∀ r, H r = none → Q (.ref r) (upd H r (.lst (xs ++ ys)))
  | _, _ => False
def rAddF : R2
  | .int i, .int j, H, Q => Q (.int (i + j)) H
  | .str a, .str b, H, Q => a.length + b.length ≤ 16777216 ∧ Q (.str (a ++ b)) H
  | .ref p, .ref q, H, Q => addO (H p) (H q) H Q
  | _, _, _, _ => False
def rIaddF : R2
  | .int i, .int j, H, Q => Q (.int (i + j)) H
  | .str a, .str b, H, Q => a.length + b.length ≤ 16777216 ∧ Q (.str (a ++ b)) H
  | _, _, _, _ => False
def rSubF : R2
  | .int i, .int j, H, Q => Q (.int (i - j)) H
  | _, _, _, _ => False
def mulO (a : Option HO) (j : Int) (H : Hp) (Q : VK) : Prop := match a with
  | some (.lst xs) => -(2 ^ 63) ≤ j ∧ j < 2 ^ 63 ∧ xs.length * j.toNat ≤ 16777216 ∧ ∀ r, H r = none → Q (.ref r) (upd H r (.lst (List.replicate j.toNat xs).flatten))
  | _ => False
def rMulF : R2
  | .int i, .int j, H, Q => CMul i j ∧ Q (.int (i * j)) H
  | .str a, .int j, H, Q => 0 ≤ j ∧ a.length * j.toNat ≤ 16777216 ∧ j ≤ 16777216 ∧ Q (.str (sL (repL (tl a) j.toNat))) H
  | .ref p, .int j, H, Q => mulO (H p) j H Q
  | _, _, _, _ => False
def rFdivF : R2
  | .int i, .int j, H, Q => CDiv i j ∧ Q (.int (i / j)) H
  | _, _, _, _ => False
def rModF : R2
  | .int i, .int j, H, Q => 0 < j ∧ Q (.int (i % j)) H
  | _, _, _, _ => False
def rPowF : R2
  | .int i, .int j, H, Q => CPow i j ∧ Q (.int (i ^ j.toNat)) H
  | _, _, _, _ => False
section
variable {X : Cx}
theorem opImp {f : Value → Value → Sem Value} {r r' : R2} (h : OpR X f r) (hi : ∀ x y H Q, r' x y H Q → r x y H Q) : OpR X f r' := fun pins s σ H x y v u Q I rx ry q => h pins s σ H x y v u Q I rx ry (hi _ _ _ _ q)
theorem op_addF : OpR X (binaryOp .Add) rAddF := by
  refine opImp (L2.OpR.or (L2.OpR.or op_add op_add_str) op_cat) fun x y H Q h => ?_
  unfold rAddF at h
  split at h
  · exact .inl (.inl ⟨_, _, rfl, rfl, h⟩)
  · exact .inl (.inr ⟨_, _, rfl, rfl, h⟩)
  · unfold addO at h
    split at h
    · exact .inr ⟨_, _, _, _, rfl, rfl, by assumption, by assumption, h⟩
    · exact h.elim
  · exact h.elim
theorem iop_addF : OpR X (inplaceOp .Add) rIaddF := by
  refine opImp (L2.OpR.or iop_add iop_add_str) fun x y H Q h => ?_
  unfold rIaddF at h
  split at h
  · exact .inl ⟨_, _, rfl, rfl, h⟩
  · exact .inr ⟨_, _, rfl, rfl, h⟩
  · exact h.elim
theorem op_subF : OpR X (binaryOp .Sub) rSubF := by
  refine opImp op_sub fun x y H Q h => ?_
  unfold rSubF at h
  split at h
  · exact ⟨_, _, rfl, rfl, h⟩
  · exact h.elim
theorem op_mulF : OpR X (binaryOp .Mult) rMulF := by
  refine opImp (L2.OpR.or (L2.OpR.or op_mul op_mulS) op_rep) fun x y H Q h => ?_
  unfold rMulF at h
  split at h
  · exact .inl (.inl ⟨_, _, rfl, rfl, h⟩)
  · obtain ⟨h0, h1, h2, h3⟩ := h
    rename_i a j
    refine .inl (.inr ⟨tl a, j.toNat, by rw [sL_tl], by rw [Int.toNat_of_nonneg h0], by rw [← len_tl]; exact h1, by omega, h3⟩)
  · unfold mulO at h
    split at h
    · exact .inr ⟨_, _, _, rfl, rfl, by assumption, h⟩
    · exact h.elim
  · exact h.elim
theorem op_fdivF : OpR X (binaryOp .FloorDiv) rFdivF := by
  refine opImp op_fdiv fun x y H Q h => ?_
  unfold rFdivF at h
  split at h
  · exact ⟨_, _, rfl, rfl, h⟩
  · exact h.elim
theorem op_modF : OpR X (binaryOp .Mod) rModF := by
  refine opImp op_mod fun x y H Q h => ?_
  unfold rModF at h
  split at h
  · exact ⟨_, _, rfl, rfl, h⟩
  · exact h.elim
theorem op_powF : OpR X (binaryOp .Pow) rPowF := by
  refine opImp op_pow fun x y H Q h => ?_
  unfold rPowF at h
  split at h
  · exact ⟨_, _, rfl, rfl, h⟩
  · exact h.elim
end

/-! ### comparisons -/
def rLtF : R2
  | .int i, .int j, H, Q => Q (.bl (decide (i < j))) H
  | _, _, _, _ => False
def rLeF : R2
  | .int i, .int j, H, Q => Q (.bl (decide (i ≤ j))) H
  | _, _, _, _ => False
def rGtF : R2
  | .int i, .int j, H, Q => Q (.bl (decide (j < i))) H
  | _, _, _, _ => False
def rGeF : R2
  | .int i, .int j, H, Q => Q (.bl (decide (j ≤ i))) H
  | _, _, _, _ => False
section
variable {X : Cx}
theorem op_ltF : OpR X (compareOp .Lt) rLtF := opImp op_lt fun x y H Q h => by
  unfold rLtF at h
  split at h
  · exact ⟨_, _, rfl, rfl, h⟩
  · exact h.elim
theorem op_leF : OpR X (compareOp .LtE) rLeF := opImp op_le fun x y H Q h => by
  unfold rLeF at h
  split at h
  · exact ⟨_, _, rfl, rfl, h⟩
  · exact h.elim
theorem op_gtF : OpR X (compareOp .Gt) rGtF := opImp op_gt fun x y H Q h => by
  unfold rGtF at h
  split at h
  · exact ⟨_, _, rfl, rfl, h⟩
  · exact h.elim
theorem op_geF : OpR X (compareOp .GtE) rGeF := opImp op_ge fun x y H Q h => by
  unfold rGeF at h
  split at h
  · exact ⟨_, _, rfl, rfl, h⟩
  · exact h.elim
end
def rEqF : R2
  | .int i, .int j, H, Q => Q (.bl (decide (i = j))) H
  | .str a, .str b, H, Q => Q (.bl (decide (a = b))) H
  | .bl a, .bl b, H, Q => Q (.bl (decide (a = b))) H
  | .non, .non, H, Q => Q (.bl true) H
  | .non, .int _, H, Q => Q (.bl false) H
  | .non, .str _, H, Q => Q (.bl false) H
  | .int _, .str _, H, Q => Q (.bl false) H
  | .str _, .int _, H, Q => Q (.bl false) H
  | .int _, .non, H, Q => Q (.bl false) H
  | .str _, .non, H, Q => Q (.bl false) H
  | _, _, _, _ => False
def rNeF : R2 := fun x y H Q => rEqF x y H fun v H' => ∃ b, v = .bl b ∧ Q (.bl (!b)) H'
section
variable {X : Cx}
theorem op_eqF : OpR X (compareOp .Eq) rEqF := opImp op_eq fun x y H Q h => by
  unfold rEqF at h
  split at h
  case h_11 => exact h.elim
  all_goals refine ⟨rfl, ?_⟩
  all_goals simp at h ⊢
  all_goals exact h
theorem op_neF : OpR X (compareOp .NotEq) rNeF := opImp op_ne fun x y H Q h => by
  unfold rNeF rEqF at h
  split at h
  case h_11 => exact h.elim
  all_goals refine ⟨rfl, ?_⟩
  all_goals simp at h ⊢
  all_goals exact h
end
def rInF : R2
  | .str a, .str z, H, Q => ∃ c, a = ⟨#[c]⟩ ∧ Q (.bl (decide (c ∈ z.cps.toList))) H
  | _, _, _, _ => False
def rNotInF : R2
  | .str a, .str z, H, Q => ∃ c, a = ⟨#[c]⟩ ∧ Q (.bl (!decide (c ∈ z.cps.toList))) H
  | _, _, _, _ => False
section
variable {X : Cx}
theorem op_inF : OpR X (compareOp .In) rInF := opImp op_in_sign fun x y H Q h => by
  unfold rInF at h
  split at h
  · obtain ⟨c, rfl, q⟩ := h
    exact ⟨c, _, rfl, rfl, q⟩
  · exact h.elim
theorem op_notInF : OpR X (compareOp .NotIn) rNotInF := opImp op_notIn_sign fun x y H Q h => by
  unfold rNotInF at h
  split at h
  · obtain ⟨c, rfl, q⟩ := h
    exact ⟨c, _, rfl, rfl, q⟩
  · exact h.elim
end

/-! ### items, slices -/
def atO (o : Option HO) (i : Int) (H : Hp) (Q : VK) : Prop := match o with
  | some (.lst xs) => (match atI xs i with | some v => Q v H | none => False)
  | some (.tup xs) => (match atI xs i with | some v => Q v H | none => False)
  | _ => False
def rIxF : R2
  | .ref p, .int i, H, Q => atO (H p) i H Q
  | .str z, .int i, H, Q => z.length ≤ 16777216 ∧ (match atI z.cps.toList i with | some c => Q (.str ⟨#[c]⟩) H | none => False)
  | _, _, _, _ => False
def slO (o : Option HO) (lo hi : Option Int) (H : Hp) (Q : VK) : Prop := match o with
  | some (.lst xs) => ∀ p, H p = none → Q (.ref p) (upd H p (.lst (cutV xs lo hi)))
  | _ => False
def rSlF : V → Option Int → Option Int → Hp → VK → Prop
  | .ref p, lo, hi, H, Q => slO (H p) lo hi H Q
  | .str z, lo, hi, H, Q => z.length ≤ 16777216 ∧ Q (.str (cutS z lo hi)) H
  | _, _, _, _, _ => False
def rSetF : V → V → V → Hp → (Hp → Prop) → Prop
  | .ref p, .int i, v, H, Q => (match H p with
    | some (.lst xs) => (match ixN xs.length i with | some j => Q (upd H p (.lst (xs.set j v))) | none => False)
    | _ => False)
  | _, _, _, _, _ => False
section
variable {X : Cx}
theorem ixImp {r r' : R2} (h : IxR X r) (hi : ∀ x y H Q, r' x y H Q → r x y H Q) : IxR X r' := fun a b pins s σ H x y v u Q I rx ry q hs => h a b pins s σ H x y v u Q I rx ry (hi _ _ _ _ q) hs
theorem ix_F : IxR X rIxF := by
  refine ixImp (L2.IxR.or ix_list (L2.IxR.or ix_tup ix_str)) fun x y H Q h => ?_
  unfold rIxF at h
  split at h
  · unfold atO at h
    split at h
    · rename_i h0
      split at h
      · exact .inl ⟨_, _, _, _, rfl, rfl, SqL.of h0, by assumption, h⟩
      · exact h.elim
    · rename_i h0
      split at h
      · exact .inr (.inl ⟨_, _, _, _, rfl, rfl, SqT.of h0, by assumption, h⟩)
      · exact h.elim
    · exact h.elim
  · obtain ⟨h1, h⟩ := h
    split at h
    · exact .inr (.inr ⟨_, _, _, rfl, rfl, h1, by assumption, h⟩)
    · exact h.elim
  · exact h.elim
theorem sl_F : SlR X rSlF := by
  intro pins s σ H x v vl vu lo hi sl Q I rx hs pl pu h
  unfold rSlF at h
  split at h
  · unfold slO at h
    split at h
    · rename_i h0
      exact sl_list pins s σ H _ v vl vu lo hi sl Q I rx hs pl pu ⟨_, _, rfl, SqL.of h0, h⟩
    · exact h.elim
  · exact sl_str pins s σ H _ v vl vu lo hi sl Q I rx hs pl pu ⟨_, rfl, h⟩
  · exact h.elim
theorem set_F : PSet X rSetF := by
  intro pins s σ H o i v ov iv u Q I r1 r2 r3 h
  unfold rSetF at h
  split at h
  · split at h
    · split at h
      · exact set_list pins s σ H _ _ v ov iv u Q I r1 r2 r3 ⟨_, _, _, _, rfl, rfl, by assumption, by assumption, h⟩
      · exact h.elim
    · exact h.elim
  · exact h.elim
end

/-! ### calls of built-ins -/
def asInts : List V → Option (List Int)
  | [] => some []
  | .int i :: r => (asInts r).map (i :: ·)
  | _ :: _ => none
theorem asInts_map : ∀ ns : List Int, asInts (ns.map V.int) = some ns
  | [] => rfl
  | n :: r => by
    show (asInts (r.map V.int)).map (n :: ·) = _
    rw [asInts_map r]
    rfl
theorem asInts_some : ∀ {xs : List V} {ns : List Int}, asInts xs = some ns → xs = ns.map V.int
  | [], ns, h => by
    cases h
    rfl
  | .int i :: r, ns, h => by
    have h : (asInts r).map (i :: ·) = some ns := h
    cases e : asInts r with
    | none =>
      rw [e] at h
      cases h
    | some ms =>
      rw [e] at h
      cases h
      rw [asInts_some e]
      rfl
  | .non :: _, _, h => by cases h
  | .bl _ :: _, _, h => by cases h
  | .str _ :: _, _, h => by cases h
  | .byt _ :: _, _, h => by cases h
  | .flt _ :: _, _, h => by cases h
  | .ref _ :: _, _, h => by cases h
  | .ty _ :: _, _, h => by cases h
def asBools : List V → Option (List Bool)
  | [] => some []
  | .bl i :: r => (asBools r).map (i :: ·)
  | _ :: _ => none
theorem asBools_map : ∀ ns : List Bool, asBools (ns.map V.bl) = some ns
  | [] => rfl
  | n :: r => by
    show (asBools (r.map V.bl)).map (n :: ·) = _
    rw [asBools_map r]
    rfl
theorem asBools_some : ∀ {xs : List V} {ns : List Bool}, asBools xs = some ns → xs = ns.map V.bl
  | [], ns, h => by
    cases h
    rfl
  | .bl i :: r, ns, h => by
    have h : (asBools r).map (i :: ·) = some ns := h
    cases e : asBools r with
    | none =>
      rw [e] at h
      cases h
    | some ms =>
      rw [e] at h
      cases h
      rw [asBools_some e]
      rfl
  | .non :: _, _, h => by cases h
  | .int _ :: _, _, h => by cases h
  | .str _ :: _, _, h => by cases h
  | .byt _ :: _, _, h => by cases h
  | .flt _ :: _, _, h => by cases h
  | .ref _ :: _, _, h => by cases h
  | .ty _ :: _, _, h => by cases h
def asStrs : List V → Option (List Str)
  | [] => some []
  | .str i :: r => (asStrs r).map (i :: ·)
  | _ :: _ => none
theorem asStrs_map : ∀ ns : List Str, asStrs (ns.map V.str) = some ns
  | [] => rfl
  | n :: r => by
    show (asStrs (r.map V.str)).map (n :: ·) = _
    rw [asStrs_map r]
    rfl
theorem asStrs_some : ∀ {xs : List V} {ns : List Str}, asStrs xs = some ns → xs = ns.map V.str
  | [], ns, h => by
    cases h
    rfl
  | .str i :: r, ns, h => by
    have h : (asStrs r).map (i :: ·) = some ns := h
    cases e : asStrs r with
    | none =>
      rw [e] at h
      cases h
    | some ms =>
      rw [e] at h
      cases h
      rw [asStrs_some e]
      rfl
  | .non :: _, _, h => by cases h
  | .int _ :: _, _, h => by cases h
  | .bl _ :: _, _, h => by cases h
  | .byt _ :: _, _, h => by cases h
  | .flt _ :: _, _, h => by cases h
  | .ref _ :: _, _, h => by cases h
  | .ty _ :: _, _, h => by cases h

abbrev RC := List V → Hp → VK → Prop
def lenO (o : Option HO) (H : Hp) (Q : VK) : Prop := match o with
  | some (.lst xs) => Q (.int (xs.length : Int)) H
  | some (.tup xs) => Q (.int (xs.length : Int)) H
  | _ => False
def rLenF : RC
  | [.str z], H, Q => z.length ≤ 16777216 ∧ Q (.int (z.length : Int)) H
  | [.ref p], H, Q => lenO (H p) H Q
  | _, _, _ => False
def rAbsF : RC
  | [.int i], H, Q => Q (.int (if i < 0 then -i else i)) H
  | _, _, _ => False
def maxO (o : Option HO) (H : Hp) (Q : VK) : Prop := match o with
  | some (.lst xs) => (match asInts xs with | some ns => 0 < ns.length ∧ ∀ m, m ∈ ns → (∀ y, y ∈ ns → y ≤ m) → Q (.int m) H | none => False)
  | _ => False
def minO (o : Option HO) (H : Hp) (Q : VK) : Prop := match o with
  | some (.lst xs) => (match asInts xs with | some ns => 0 < ns.length ∧ ∀ m, m ∈ ns → (∀ y, y ∈ ns → m ≤ y) → Q (.int m) H | none => False)
  | _ => False
def rMaxF : RC
  | [.int i, .int j], H, Q => Q (.int (if j > i then j else i)) H
  | [.ref p], H, Q => maxO (H p) H Q
  | _, _, _ => False
def rMinF : RC
  | [.int i, .int j], H, Q => Q (.int (if j < i then j else i)) H
  | [.ref p], H, Q => minO (H p) H Q
  | _, _, _ => False
def rIntF : RC
  | [.int i], H, Q => Q (.int i) H
  | [.bl b], H, Q => Q (.int (if b then 1 else 0)) H
  | [.str a], H, Q => (match PySem.intText? a with | some n => a.length ≤ 640 ∧ Q (.int n) H | none => False)
  | _, _, _ => False
def rStrF : RC
  | [.int i], H, Q => i.natAbs.log2 < 1920 ∧ Q (.str (toString i)) H
  | _, _, _ => False
def listO (o : Option HO) (H : Hp) (Q : VK) : Prop := match o with
  | some (.lst xs) => ∀ l, H l = none → Q (.ref l) (upd H l (.lst xs))
  | some (.tup xs) => ∀ l, H l = none → Q (.ref l) (upd H l (.lst xs))
  | _ => False
def rListF : RC
  | [.ref p], H, Q => listO (H p) H Q
  | _, _, _ => False
def tupO (p : Addr) (o : Option HO) (H : Hp) (Q : VK) : Prop := match o with
  | some (.lst xs) => ∀ l, H l = none → Q (.ref l) (upd H l (.tup xs))
  | some (.tup _) => Q (.ref p) H
  | _ => False
def rTupF : RC
  | [.ref p], H, Q => tupO p (H p) H Q
  | _, _, _ => False
def sumO (o : Option HO) (H : Hp) (Q : VK) : Prop := match o with
  | some (.lst xs) => (match asInts xs with | some ns => Q (.int ns.sum) H | none => False)
  | _ => False
def rSumF : RC
  | [.ref p], H, Q => sumO (H p) H Q
  | _, _, _ => False
def allO (o : Option HO) (H : Hp) (Q : VK) : Prop := match o with
  | some (.lst xs) => (match asBools xs with | some ns => Q (.bl (ns.all id)) H | none => False)
  | _ => False
def rAllF : RC
  | [.ref p], H, Q => allO (H p) H Q
  | _, _, _ => False
section
variable {X : Cx}
theorem callImp {f : Value} {r r' : RC} (h : CallR X f r) (hi : ∀ xs H Q, r' xs H Q → r xs H Q) : CallR X f r' := fun pins s σ H xs us Q I rx q => h pins s σ H xs us Q I rx (hi _ _ _ q)
theorem call_lenF : CallR X (.builtin "len") rLenF := by
  refine callImp (L2.CallR.or call_len_str call_len_seq) fun xs H Q h => ?_
  unfold rLenF at h
  split at h
  · exact .inl ⟨_, rfl, h⟩
  · unfold lenO at h
    split at h
    · rename_i h0
      exact .inr ⟨_, _, rfl, .inl (SqL.of h0), h⟩
    · rename_i h0
      exact .inr ⟨_, _, rfl, .inr (SqT.of h0), h⟩
    · exact h.elim
  · exact h.elim
theorem call_absF : CallR X (.builtin "abs") rAbsF := callImp call_abs fun xs H Q h => by
  unfold rAbsF at h
  split at h
  · exact ⟨_, rfl, h⟩
  · exact h.elim
theorem call_maxF (hc : X.calm = true) : CallR X (.builtin "max") rMaxF := by
  refine callImp (L2.CallR.or (call_max2 hc) (cr_max hc)) fun xs H Q h => ?_
  unfold rMaxF at h
  split at h
  · exact .inl ⟨_, _, rfl, h⟩
  · unfold maxO at h
    split at h
    · rename_i h0
      split at h
      · rename_i h1
        exact .inr ⟨_, _, rfl, by rw [← asInts_some h1]; exact SqL.of h0, h⟩
      · exact h.elim
    · exact h.elim
  · exact h.elim
theorem call_minF (hc : X.calm = true) : CallR X (.builtin "min") rMinF := by
  refine callImp (L2.CallR.or (call_min2 hc) (cr_min hc)) fun xs H Q h => ?_
  unfold rMinF at h
  split at h
  · exact .inl ⟨_, _, rfl, h⟩
  · unfold minO at h
    split at h
    · rename_i h0
      split at h
      · rename_i h1
        exact .inr ⟨_, _, rfl, by rw [← asInts_some h1]; exact SqL.of h0, h⟩
      · exact h.elim
    · exact h.elim
  · exact h.elim
theorem call_intF' : CallR X (.type "int") rIntF := by
  refine callImp (L2.CallR.or call_int1 call_int_str) fun xs H Q h => ?_
  unfold rIntF at h
  split at h
  · exact .inl (.inl ⟨_, rfl, h⟩)
  · exact .inl (.inr ⟨_, rfl, h⟩)
  · split at h
    · exact .inr ⟨_, _, rfl, by assumption, h⟩
    · exact h.elim
  · exact h.elim
theorem call_strF : CallR X (.type "str") rStrF := callImp call_str_int fun xs H Q h => by
  unfold rStrF at h
  split at h
  · exact ⟨_, rfl, h⟩
  · exact h.elim
theorem call_listF : CallR X (.type "list") rListF := callImp call_list_of fun xs H Q h => by
  unfold rListF at h
  split at h
  · unfold listO at h
    split at h
    · rename_i h0
      exact ⟨_, _, rfl, .inl (SqL.of h0), h⟩
    · rename_i h0
      exact ⟨_, _, rfl, .inr (SqT.of h0), h⟩
    · exact h.elim
  · exact h.elim
theorem call_tupF : CallR X (.type "tuple") rTupF := callImp call_tuple_of fun xs H Q h => by
  unfold rTupF at h
  split at h
  · unfold tupO at h
    split at h
    · rename_i h0
      exact ⟨_, _, rfl, .inl ⟨SqL.of h0, h⟩⟩
    · rename_i h0
      exact ⟨_, _, rfl, .inr ⟨SqT.of h0, h⟩⟩
    · exact h.elim
  · exact h.elim
theorem call_sumF (hc : X.calm = true) : CallR X (.builtin "sum") rSumF := callImp (cr_sum hc) fun xs H Q h => by
  unfold rSumF at h
  split at h
  · unfold sumO at h
    split at h
    · rename_i h0
      split at h
      · rename_i h1
        exact ⟨_, _, rfl, by rw [← asInts_some h1]; exact SqL.of h0, h⟩
      · exact h.elim
    · exact h.elim
  · exact h.elim
theorem call_allF (hc : X.calm = true) : CallR X (.builtin "all") rAllF := callImp (cr_all hc) fun xs H Q h => by
  unfold rAllF at h
  split at h
  · unfold allO at h
    split at h
    · rename_i h0
      split at h
      · rename_i h1
        exact ⟨_, _, rfl, by rw [← asBools_some h1]; exact SqL.of h0, h⟩
      · exact h.elim
    · exact h.elim
  · exact h.elim
end

/-! ### isinstance of plain values and built-in classes -/
def tyF (x : V) (H : Hp) : Option String := match x with
  | .non => some "NoneType"
  | .bl _ => some "bool"
  | .int _ => some "int"
  | .str _ => some "str"
  | .ref a => (match H a with
    | some (.lst _) => some "list"
    | some (.tup _) => some "tuple"
    | some (.dK _) => some "dict"
    | some (.dT _) => some "dict"
    | _ => none)
  | _ => none
theorem tyF_of {K : PySem.W.Frag} {H : Hp} {x : V} {T : String} (h : tyF x H = some T) : TyX K H x (.type T) := by
  unfold tyF at h
  split at h
  · cases h; exact .base .non
  · cases h; exact .base (.bl _)
  · cases h; exact .base (.int _)
  · cases h; exact .base (.str _)
  · split at h
    · rename_i h0; cases h; exact .base (.lst h0)
    · rename_i h0; cases h; exact .base (.tup h0)
    · rename_i h0; cases h; exact .base (.dK h0)
    · rename_i h0; cases h; exact .base (.dT h0)
    · cases h
  · cases h
/-- is a built-in class below another one (of those that are met here) -/
def subTy (T U : String) : Bool := T == U || (T == "bool" && U == "int")
def okTy (T : String) : Bool := T == "NoneType" || T == "bool" || T == "int" || T == "str" || T == "list" || T == "tuple" || T == "dict"
def rIsiF : RC
  | [x, .ty U], H, Q => (match tyF x H with | some T => okTy U = true ∧ Q (.bl (subTy T U)) H | none => False)
  | _, _, _ => False
theorem kit_of_ty {K : PySem.W.Frag} {T U : String} (hT : okTy T = true) (hU : okTy U = true) : PySem.W.kitOne K (.type T) (.type U) = some (subTy T U) := by
  unfold okTy at hT hU
  simp only [Bool.or_eq_true, beq_iff_eq] at hT hU
  rcases hT with (((((hT | hT) | hT) | hT) | hT) | hT) | hT <;> subst hT <;> rcases hU with (((((hU | hU) | hU) | hU) | hU) | hU) | hU <;> subst hU <;> rfl
theorem tyF_ok {x : V} {H : Hp} {T : String} (h : tyF x H = some T) : okTy T = true := by
  unfold tyF at h
  split at h
  · cases h; rfl
  · cases h; rfl
  · cases h; rfl
  · cases h; rfl
  · split at h <;> first | (cases h; rfl) | cases h
  · cases h
section
variable {X : Cx}
theorem call_isiF : CallR X (.builtin "isinstance") rIsiF := callImp call_isi fun xs H Q h => by
  unfold rIsiF at h
  split at h
  · split at h
    · rename_i h0
      exact ⟨_, _, _, _, _, rfl, .ty _, tyF_of h0, kit_of_ty (tyF_ok h0) h.1, h.2⟩
    · exact h.elim
  · exact h.elim
end

/-! ### methods -/
def isL (x : V) (H : Hp) : Prop := match x with
  | .ref p => (match H p with | some (.lst _) => True | _ => False)
  | _ => False
theorem isL_ty {K : PySem.W.Frag} {x : V} {H : Hp} (h : isL x H) : tyV K "list" x H := by
  unfold isL at h
  split at h
  · split at h
    · rename_i h0
      exact .inl ⟨rfl, _, SqL.of h0⟩
    · exact h.elim
  · exact h.elim
def tLM0 (r : V → List V → Hp → VK → Prop) (to : TE) : TE := fun σ H Q => to σ H fun x H1 => isL x H1 ∧ r x [] H1 Q
def tLM (r : V → List V → Hp → VK → Prop) (to : TE) (t : TA) : TE := fun σ H Q => to σ H fun x H1 => isL x H1 ∧ t σ H1 fun xs H2 => r x xs H2 Q
def rAppF : V → List V → Hp → VK → Prop
  | .ref l, [y], H, Q => (match H l with | some (.lst xs) => xs.length < 16777216 ∧ Q .non (upd H l (.lst (xs ++ [y]))) | _ => False)
  | _, _, _, _ => False
def rPopF : V → List V → Hp → VK → Prop
  | .ref l, [], H, Q => (match H l with | some (.lst xs) => (match xs[xs.length - 1]? with | some y => Q y (upd H l (.lst xs.dropLast)) | none => False) | _ => False)
  | .ref l, [.int i], H, Q => (match H l with | some (.lst xs) => 0 ≤ i ∧ (match xs[i.toNat]? with | some y => i < 16777216 ∧ Q y (upd H l (.lst (xs.eraseIdx i.toNat))) | none => False) | _ => False)
  | _, _, _, _ => False
def rClearF : V → List V → Hp → VK → Prop
  | .ref l, [], H, Q => (match H l with | some (.lst _) => Q .non (upd H l (.lst [])) | _ => False)
  | _, _, _, _ => False
def rExtF : V → List V → Hp → VK → Prop
  | .ref l, [.ref b], H, Q => (match H l, H b with | some (.lst xs), some (.lst zs) => xs.length + zs.length ≤ 16777216 ∧ Q .non (upd H l (.lst (xs ++ zs))) | _, _ => False)
  | _, _, _, _ => False
section
variable {X : Cx} {o e : Expr} {es : List Expr} {to : TE} {t : TA} {r r' : V → List V → Hp → VK → Prop} {id : String}
theorem PE.imp {e : Expr} {t t' : TE} (h : PE X e t) (hi : ∀ σ H Q, t' σ H Q → t σ H Q) : PE X e t' := ⟨fun pins s σ H Q I q => h.run pins s σ H Q I (hi _ _ _ q)⟩
theorem mtImp (h : MtR X id r) (hi : ∀ x xs H Q, r' x xs H Q → r x xs H Q) : MtR X id r' := fun pins s σ H x xs v us Q I rx rs q => h pins s σ H x xs v us Q I rx rs (hi _ _ _ _ q)
theorem seqIx {i : Int} {xs : List V} {y : V} (h0 : 0 ≤ i) (h : xs[i.toNat]? = some y) : seqIndex? i xs.length = some i.toNat := by
  have hl : i.toNat < xs.length := (List.getElem?_eq_some_iff.mp h).1
  unfold seqIndex?
  simp
  omega
end
end CM

namespace CM
open PySem PySem.Spec PyProof.Rows L2
/-- a reading that may be asked for less -/
def up (t : TE) : TE := fun σ H Q => ∃ Q0 : VK, t σ H Q0 ∧ ∀ x H1, Q0 x H1 → Q x H1
section
variable {X : Cx} {o e : Expr} {es : List Expr} {to te : TE} {t : TA} {r r' : V → List V → Hp → VK → Prop} {id : String} {name : Str} {apos cpos : Pos}
theorem pe_up {e : Expr} {t : TE} (h : PE X e t) : PE X e (up t) := ⟨fun pins s σ H Q I ⟨_, q, hi⟩ => thn (h.run pins s σ H _ I q) fun _ _ ⟨x, H1, I1, r1, q1⟩ => ⟨x, H1, I1, r1, hi _ _ q1⟩⟩
theorem pe_lm0 (slot : Slot "list" name id) (hty : typeOf (.builtin id) = pure (.type "method_descriptor")) (hm : MtR X id r) (ho : PE X o to) (hb : attributeBase o name X.env (eval o X.env) = eval o X.env := by rfl)
    (hl : (apos.endLine == cpos.line) = true := by rfl) : PE X (.Call (.Attribute o name apos) [] [] cpos) (tLM0 r to) :=
  PE.imp (pe_bm0 PySem.F.plainAttrs_list slot hty hm (pe_up ho) hb hl) fun _ _ _ h => ⟨_, h, fun _ _ q => ⟨isL_ty q.1, q.2⟩⟩
theorem pe_lm (slot : Slot "list" name id) (hty : typeOf (.builtin id) = pure (.type "method_descriptor")) (hm : MtR X id r) (ho : PE X o to) (ha : PA X (e :: es) t) (hb : attributeBase o name X.env (eval o X.env) = eval o X.env := by rfl)
    (hf : ((backTo cpos (starEach (e :: es) X.env)).all (fun x => !x.1) && (backToKw cpos (keywordEach [] X.env)).all (fun x => x.1.isSome) && decide ((e :: es).length + ([] : List Keyword).length + (if ([] : List Keyword).isEmpty then 0 else 1) < 30)) = true := by rfl)
    (hl : (apos.endLine == cpos.line) = true := by rfl) (hs : starEach (e :: es) X.env = (false, eval e X.env) :: starEach es X.env := by rfl) (hp : (backTo cpos (starEach es X.env)).any (·.1) = false := by rfl) :
    PE X (.Call (.Attribute o name apos) (e :: es) [] cpos) (tLM r to t) :=
  PE.imp (pe_bm PySem.F.plainAttrs_list slot hty hm (pe_up ho) ha hb hf hl hs hp) fun _ _ _ h => ⟨_, h, fun _ _ q => ⟨isL_ty q.1, q.2⟩⟩
theorem mt_appF : MtR X "list.append" rAppF := mtImp mt_append fun x xs H Q h => by
  unfold rAppF at h
  split at h
  · split at h
    · exact ⟨_, _, _, rfl, rfl, by assumption, h⟩
    · exact h.elim
  · exact h.elim
theorem mt_popF : MtR X "list.pop" rPopF := mtImp (L2.MtR.or mt_pop mt_popAt) fun x xs H Q h => by
  unfold rPopF at h
  split at h
  · split at h
    · split at h
      · exact .inl ⟨_, _, _, rfl, rfl, by assumption, by assumption, h⟩
      · exact h.elim
    · exact h.elim
  · split at h
    · obtain ⟨h0, h⟩ := h
      split at h
      · rename_i h1
        exact .inr ⟨_, _, _, _, _, rfl, rfl, by assumption, by omega, by omega, seqIx h0 h1, h1, h.2⟩
      · exact h.elim
    · exact h.elim
  · exact h.elim
theorem mt_clearF : MtR X "list.clear" rClearF := mtImp mt_clear fun x xs H Q h => by
  unfold rClearF at h
  split at h
  · split at h
    · exact ⟨_, _, rfl, rfl, by assumption, h⟩
    · exact h.elim
  · exact h.elim
theorem mt_extF : MtR X "list.extend" rExtF := mtImp mt_extend fun x xs H Q h => by
  unfold rExtF at h
  split at h
  · split at h
    · exact ⟨_, _, _, _, rfl, rfl, by assumption, by assumption, h⟩
    · exact h.elim
  · exact h.elim

/-! ### texts: join, split -/
def asCodes : List V → Option (List (List Nat))
  | [] => some []
  | .str i :: r => (asCodes r).map (tl i :: ·)
  | _ :: _ => none
theorem asCodes_map : ∀ ns : List (List Nat), asCodes (ns.map fun l => V.str (sL l)) = some ns
  | [] => rfl
  | n :: r => by
    show (asCodes (r.map fun l => V.str (sL l))).map (n :: ·) = _
    rw [asCodes_map r]
    rfl
theorem asCodes_some : ∀ {xs : List V} {ns : List (List Nat)}, asCodes xs = some ns → xs = (ns.map sL).map V.str
  | [], ns, h => by
    cases h
    rfl
  | .str i :: r, ns, h => by
    have h : (asCodes r).map (tl i :: ·) = some ns := h
    cases e : asCodes r with
    | none =>
      rw [e] at h
      cases h
    | some ms =>
      rw [e] at h
      cases h
      rw [asCodes_some e, List.map_cons, List.map_cons, sL_tl]
  | .non :: _, _, h => by cases h
  | .int _ :: _, _, h => by cases h
  | .bl _ :: _, _, h => by cases h
  | .byt _ :: _, _, h => by cases h
  | .flt _ :: _, _, h => by cases h
  | .ref _ :: _, _, h => by cases h
  | .ty _ :: _, _, h => by cases h
def joinO (a : Str) (o : Option HO) (H : Hp) (Q : VK) : Prop := match o with
  | some (.lst xs) => (match asCodes xs with | some ws => (ws.map (·.length)).sum + ws.length * a.length ≤ 16777216 ∧ Q (.str (sL (TL.joinL (tl a) ws))) H | none => False)
  | _ => False
def rJoinF : V → List V → Hp → VK → Prop
  | .str a, [.ref p], H, Q => joinO a (H p) H Q
  | _, _, _, _ => False
theorem join_sL (a : Str) (ws : List (List Nat)) : Txt.join a (ws.map sL) = sL (TL.joinL (tl a) ws) := by
  refine TL.ext_tl ?_
  rw [TL.join_eq, TL.tl_join, List.map_map]
  have e : (TL.tl ∘ sL) = id := rfl
  rw [e, List.map_id]
theorem lens_sL (ws : List (List Nat)) : (ws.map sL).map (·.length) = ws.map (·.length) := by
  rw [List.map_map]
  refine List.map_congr_left fun l _ => ?_
  exact len_sL l
theorem mt_joinF : MtR X "str.join" rJoinF := mtImp mt_join fun x xs H Q h => by
  unfold rJoinF at h
  split at h
  · unfold joinO at h
    split at h
    · rename_i h0
      split at h
      · rename_i a p _ _ _ ws h1
        refine ⟨a, p, ws.map sL, rfl, rfl, .inl (by rw [← asCodes_some h1]; exact SqL.of h0), ?_, ?_⟩
        · rw [lens_sL, List.length_map]
          exact h.1
        · rw [join_sL]
          exact h.2
      · exact h.elim
    · exact h.elim
  · exact h.elim
theorem pe_joinF (ho : PE X o to) (he : PE X e te) (hs : starEach [e] X.env = [(false, eval e X.env)] := by rfl) (hb : attributeBase o "join" X.env (eval o X.env) = eval o X.env := by rfl) (hl : (apos.endLine == cpos.line) = true := by rfl) :
    PE X (.Call (.Attribute o "join" apos) [e] [] cpos) (tM1 rJoinF to te) := pe_m1 PySem.F.slot_str_join PySem.F.type_str_join mt_joinF ho he hs hb hl
/-- a.split(b), b one sign -/
def splitL (c : Nat) (l : List Nat) : List (List Nat) := TL.spl [c] 0 [] l
def rSplitF : V → List V → Hp → VK → Prop
  | .str a, [.str b], H, Q => ∃ c, b = sL [c] ∧ c < 256 ∧ a.length ≤ 16777214 ∧ ∀ p, H p = none → Q (.ref p) (upd H p (.lst ((splitL c (tl a)).map fun l => V.str (sL l))))
  | _, _, _, _ => False
theorem split_sL {c : Nat} (hc : c < 256) (a : Str) : Txt.split a (sL [c]) = (splitL c (tl a)).map sL := by
  refine TL.map_tl_inj ?_
  have h := TL.split_spl a (sL [c]) (by show [c] ≠ []; simp) (TL.kind_ok (by show (([c] : List Nat).toArray.all (· < 256)) = true; simp [hc]))
  rw [h, List.map_map]
  have e : (TL.tl ∘ sL) = id := rfl
  rw [e, List.map_id]
  rfl
theorem mt_splitF : MtR X "str.split" rSplitF := mtImp mt_split fun x xs H Q h => by
  unfold rSplitF at h
  split at h
  · obtain ⟨c, rfl, hc, hl, q⟩ := h
    refine ⟨_, _, rfl, rfl, rfl, ?_, fun p hp => ?_⟩
    · show _ + 2 ≤ 2 ^ 24
      omega
    · rw [split_sL hc, List.map_map]
      exact q p hp
  · exact h.elim
theorem pe_splitF (ho : PE X o to) (he : PE X e te) (hs : starEach [e] X.env = [(false, eval e X.env)] := by rfl) (hb : attributeBase o "split" X.env (eval o X.env) = eval o X.env := by rfl) (hl : (apos.endLine == cpos.line) = true := by rfl) :
    PE X (.Call (.Attribute o "split" apos) [e] [] cpos) (tM1 rSplitF to te) := pe_m1 PySem.F.slot_str_split PySem.F.type_str_split mt_splitF ho he hs hb hl
end

/-! ### str(n), int(text) of figures -/
theorem toS (n : Nat) : (toString ((n : Nat) : Int) : Str) = sL (TL.numL n) := TL.ext_tl (TL.tl_num n)
end CM

namespace CM
open PySem PySem.Spec PyProof.Rows L2
abbrev St' := L2.St
def nones : Nat → L2.St
  | 0 => []
  | n + 1 => none :: nones n
theorem nones0 : nones 0 = [] := rfl
theorem nonesS {n : Nat} : nones (n + 1) = none :: nones n := rfl
theorem nones_eq : ∀ n, List.replicate n none = nones n
  | 0 => rfl
  | n + 1 => by
    rw [List.replicate_succ, nones_eq n]
    rfl
theorem start_eq {N : List Str} {vs : List V} : L2.start N vs = vs.map some ++ nones (N.length - vs.length) := by
  unfold L2.start
  rw [nones_eq]
/-- a seal: what stands beside it is left as it is -/
inductive Seal {α : Sort u} (a : α) : Type | mk
/-- a new object, wherever it comes to lie -/
def New (H : Hp) (o : HO) (Q : VK) (_ : Seal Q) : Prop := ∀ p, H p = none → Q (.ref p) (upd H p o)
theorem new_in {H : Hp} {o : HO} {Q : VK} (h : ∀ p H', H p = none → Same H H' → H' p = some o → Q (.ref p) H') : New H o Q .mk := fun p hp => h p _ hp (sm_new hp) upd_same
/-- a promise asked for -/
def CallSp (sp : Sp) (vs : List V) (H : Hp) (Q : VK) (_ : Seal Q) (E : XK) : Prop := sp vs H Q E
/-! ### the readings, fully applied -/
section
variable {σ : L2.St} {H : Hp} {Q : VK} {Qb : Bool → Hp → Prop} {Qa : List V → Hp → Prop} {D : Ends} {ta tb tc te to ti : TE} {c d : TT} {t u : TS} {as : TA} {g g' : TG} {gs : TGs} {r r' : R2} {v x : V}
theorem w_var {i : Nat} : tVar i σ H Q = (∃ v, σ[i]? = some (some v) ∧ Q v H) := rfl
theorem w_c : tC v σ H Q = Q v H := rfl
theorem w_seq : tSeq t u D σ H = t { D with nx := u D } σ H := rfl
theorem w_next : tNext D σ H = D.nx σ H := rfl
theorem w_brk : tBreak D σ H = D.bk σ H := rfl
theorem w_cont : tCont D σ H = D.ct σ H := rfl
theorem w_drop : tDrop te D σ H = te σ H fun _ H1 => D.nx σ H1 := rfl
theorem w_ret : tRet te D σ H = te σ H D.rt := rfl
theorem w_retN : tRetN D σ H = D.rt .non H := rfl
theorem w_ifs : tIfS c t u D σ H = c σ H fun b H1 => if b = true then t D σ H1 else u D σ H1 := rfl
theorem w_never : tNever D σ H = False := rfl
theorem w_asg : tAsg te g D σ H = te σ H fun x H1 => g x σ H1 D.nx := rfl
theorem w_aug {i : Nat} {k : TIp} : tAug i te k D σ H = ∃ x, σ[i]? = some (some x) ∧ te σ H fun y H1 => k x y H1 fun z H2 => D.nx (σ.set i (some z)) H2 := rfl
theorem w_gname {i : Nat} {R : L2.St → Hp → Prop} : gName i v σ H R = R (σ.set i (some v)) H := rfl
theorem w_gnil {R : L2.St → Hp → Prop} : gNil [] σ H R = R σ H := by
  unfold gNil
  simp
theorem w_gcons {r : List V} {R : L2.St → Hp → Prop} : gCons g gs (v :: r) σ H R = g v σ H fun σ' H' => gs r σ' H' R := by
  unfold gCons
  apply propext
  constructor
  · rintro ⟨a, b, h1, h2⟩
    cases h1
    exact h2
  · exact fun h => ⟨_, _, rfl, h⟩
theorem w_gsub {s : TSet} {R : L2.St → Hp → Prop} : gSub to ti s v σ H R = to σ H fun o H1 => ti σ H1 fun i H2 => s o i v H2 fun H3 => R σ H3 := rfl
theorem w_op : tOp r ta tb σ H Q = ta σ H fun x H1 => tb σ H1 fun y H2 => r x y H2 Q := rfl
theorem w_un {k : V → Hp → VK → Prop} : tUn k ta σ H Q = ta σ H fun x H1 => k x H1 Q := rfl
theorem w_test : tTest te σ H Qb = te σ H fun x H' => ∃ k, x = .bl k ∧ Qb k H' := rfl
theorem w_b : tB te σ H Qb = te σ H fun x H' => ∃ k, x = .bl k ∧ Qb k H' := rfl
theorem w_and : tAnd c d σ H Qb = c σ H fun k H1 => if k = true then d σ H1 Qb else Qb false H1 := rfl
theorem w_or : tOr c d σ H Qb = c σ H fun k H1 => if k = true then Qb true H1 else d σ H1 Qb := rfl
theorem w_not : tNot c σ H Qb = c σ H fun k H1 => Qb (!k) H1 := rfl
theorem w_andV : tAndV ta tb σ H Q = ta σ H fun x H1 => ∃ k, x = .bl k ∧ if k = true then tb σ H1 Q else Q (.bl false) H1 := rfl
theorem w_orV : tOrV ta tb σ H Q = ta σ H fun x H1 => ∃ k, x = .bl k ∧ if k = true then Q (.bl true) H1 else tb σ H1 Q := rfl
theorem w_notV : tNotV ta σ H Q = ta σ H fun x H1 => ∃ k, x = .bl k ∧ Q (.bl (!k)) H1 := rfl
theorem w_if : tIf c ta tb σ H Q = c σ H fun k H1 => if k = true then ta σ H1 Q else tb σ H1 Q := rfl
theorem w_chain : tChain r r' ta tb tc σ H Q = ta σ H fun x H1 => tb σ H1 fun y H2 => r x y H2 fun z H3 => ∃ k, z = .bl k ∧ (if k = true then tc σ H3 fun w' H4 => r' y w' H4 Q else Q (.bl false) H3) := rfl
theorem w_nil : tNil σ H Qa = Qa [] H := rfl
theorem w_cons : tCons ta as σ H Qa = ta σ H fun x H1 => as σ H1 fun xs H2 => Qa (x :: xs) H2 := rfl
theorem w_tup : tTup as σ H Q = as σ H fun xs H1 => xs.length ≤ 16777216 ∧ New H1 (.tup xs) Q .mk := rfl
theorem w_lst : tLst as σ H Q = as σ H fun xs H1 => xs.length ≤ 16777216 ∧ New H1 (.lst xs) Q .mk := rfl
theorem w_cb {k : RC} : tCB k as σ H Q = as σ H fun vs H1 => k vs H1 Q := rfl
theorem w_call {sp : Sp} {dvs : List V} {E : XK} : tCall sp dvs E as σ H Q = as σ H fun vs H1 => CallSp sp (vs ++ dvs) H1 Q .mk E := rfl
theorem w_part {Qo : Option Int → Hp → Prop} : tPart te σ H Qo = te σ H fun x H1 => ∃ i, x = .int i ∧ Qo (some i) H1 := rfl
theorem w_nopart {Qo : Option Int → Hp → Prop} : tNoPart σ H Qo = Qo none H := rfl
theorem w_sl {k : V → Option Int → Option Int → Hp → VK → Prop} {a b : TO} : tSl k te a b σ H Q = te σ H fun x H1 => a σ H1 fun l H2 => b σ H2 fun u H3 => k x l u H3 Q := rfl
theorem w_lm0 {k : V → List V → Hp → VK → Prop} : tLM0 k to σ H Q = to σ H fun x H1 => isL x H1 ∧ k x [] H1 Q := rfl
theorem w_lm {k : V → List V → Hp → VK → Prop} : tLM k to as σ H Q = to σ H fun x H1 => isL x H1 ∧ as σ H1 fun xs H2 => k x xs H2 Q := rfl
theorem w_m0 {k : V → List V → Hp → VK → Prop} : tM0 k to σ H Q = to σ H fun x H1 => (∃ a, x = .str a) ∧ k x [] H1 Q := rfl
theorem w_m1 {k : V → List V → Hp → VK → Prop} : tM1 k to te σ H Q = to σ H fun x H1 => (∃ a, x = .str a) ∧ te σ H1 fun y H2 => k x [y] H2 Q := rfl
def fmtO (x : V) (H1 : Hp) (Q : VK) : Prop := (∃ y : Str, x = .str y ∧ y.length ≤ sizeLine ∧ Q (.str y) H1) ∨ ∃ i : Int, x = .int i ∧ i.natAbs.log2 < 1920 ∧ Q (.str (toString i)) H1
theorem w_fmt : tFmt te σ H Q = te σ H fun x H1 => fmtO x H1 Q := rfl
theorem f_fmt1 {y : Str} : fmtO (.str y) H Q = (y.length ≤ 16777216 ∧ Q (.str y) H) := by
  unfold fmtO
  simp [sizeLine]
theorem f_fmt2 {i : Int} : fmtO (.int i) H Q = (i.natAbs.log2 < 1920 ∧ Q (.str (toString i)) H) := by
  unfold fmtO
  simp
def jsO (x : V) (ts : List TE) (acc : Str) (σ : L2.St) (H1 : Hp) (R : Str → Hp → Prop) : Prop := ∃ y : Str, x = .str y ∧ (acc ++ y).length ≤ sizeLine ∧ tJs ts (acc ++ y) σ H1 R
theorem w_js0 {acc : Str} {R : Str → Hp → Prop} : tJs [] acc σ H R = R acc H := rfl
theorem w_js {ts : List TE} {acc : Str} {R : Str → Hp → Prop} : tJs (te :: ts) acc σ H R = te σ H fun x H1 => jsO x ts acc σ H1 R := rfl
theorem f_js {y : Str} {ts : List TE} {acc : Str} {R : Str → Hp → Prop} : jsO (.str y) ts acc σ H R = ((acc ++ y).length ≤ 16777216 ∧ tJs ts (acc ++ y) σ H R) := by
  unfold jsO
  simp [sizeLine]
theorem emptyS : Str.empty = sL [] := rfl
theorem w_yes : tYes σ H Qb = Qb true H := rfl
theorem w_isN : rIsN v x H Q = (x = .non ∧ Q (.bl (decide (v = .non))) H) := rfl
theorem w_notN : rNotN v x H Q = (x = .non ∧ Q (.bl (!decide (v = .non))) H) := rfl
theorem w_isB : rIsB v x H Q = ∃ a b : Bool, v = .bl a ∧ x = .bl b ∧ Q (.bl (decide (a = b))) H := rfl
theorem w_notB : rNotB v x H Q = ∃ a b : Bool, v = .bl a ∧ x = .bl b ∧ Q (.bl (!decide (a = b))) H := rfl
theorem w_rU {k : Int → V} {i : Int} : rU k (.int i) H Q = Q (k i) H := by
  unfold rU
  simp

/-! ### loops -/
/-- what a for asks once its iterator has come -/
def Lp (J : It) (g : TG) (tb : TS) (D : Ends) (_ : Seal g) (_ : Seal tb) (_ : Seal D) (σ : L2.St) (H1 : Hp) : Prop := ∃ W : Nat → Nat → L2.St → Hp → Prop, (∃ m, W 0 m σ H1) ∧ ∀ i m σ H, W i m σ H →
  (J.stop i H ∧ D.nx σ H) ∨ (J.go i H ∧ ∃ N : L2.St → Hp → Prop, (∀ σ' H', N σ' H' → ∃ m', m' < m ∧ W (i + 1) m' σ' H') ∧ ∀ x H', J.yld i H x H' → g x σ H' fun σ2 H2 => tb { D with nx := N, ct := N, bk := D.nx } σ2 H2)
theorem w_for {wi : TI} : tFor wi g t D σ H = wi σ H fun J H1 => Lp J g t D .mk .mk .mk σ H1 := rfl
def rng1O (vs : List V) (H1 : Hp) (R : It → Hp → Prop) : Prop := ∃ j : Int, vs = [.int j] ∧ -(2 ^ 62) ≤ j ∧ j < 2 ^ 62 ∧ R (Itr 0 j.toNat) H1
def rng2O (vs : List V) (H1 : Hp) (R : It → Hp → Prop) : Prop := ∃ i j : Int, vs = [.int i, .int j] ∧ (-(2 ^ 62) ≤ i ∧ i < 2 ^ 62 ∧ -(2 ^ 62) ≤ j ∧ j < 2 ^ 62) ∧ R (Itr i (j - i).toNat) H1
theorem w_rng1 {R : It → Hp → Prop} : iRng1 as σ H R = as σ H fun vs H1 => rng1O vs H1 R := rfl
theorem w_rng2 {R : It → Hp → Prop} : iRng2 as σ H R = as σ H fun vs H1 => rng2O vs H1 R := rfl
theorem f_rng1 {j : Int} {R : It → Hp → Prop} : rng1O [.int j] H R = (-(2 ^ 62) ≤ j ∧ j < 2 ^ 62 ∧ R (Itr 0 j.toNat) H) := by
  unfold rng1O
  simp
theorem f_rng2 {i j : Int} {R : It → Hp → Prop} : rng2O [.int i, .int j] H R = ((-(2 ^ 62) ≤ i ∧ i < 2 ^ 62 ∧ -(2 ^ 62) ≤ j ∧ j < 2 ^ 62) ∧ R (Itr i (j - i).toNat) H) := by
  unfold rng2O
  apply propext
  constructor
  · rintro ⟨a, b, h1, h2⟩
    cases h1
    exact h2
  · exact fun h => ⟨i, j, rfl, h⟩
theorem w_ilist {K : PySem.W.Frag} {R : It → Hp → Prop} : iList K te σ H R = te σ H fun x H1 => ∃ a, x = .ref a ∧ (∃ xs, SqL K H1 a xs) ∧ R (Itl K a) H1 := rfl
theorem w_itup {K : PySem.W.Frag} {R : It → Hp → Prop} : iTup K te σ H R = te σ H fun x H1 => ∃ a, x = .ref a ∧ (∃ xs, SqT K H1 a xs) ∧ R (Itt K a) H1 := rfl
theorem w_istr {R : It → Hp → Prop} : iStr te σ H R = te σ H fun v H1 => ∃ x, v = .str x ∧ R (Its x) H1 := rfl
/-- an invariant as it stands -/
def Hd (P : L2.St → Hp → Prop) (_ : Seal P) (σ : L2.St) (H : Hp) : Prop := P σ H
/-- by an invariant over the turn, the slots and the heap -/
theorem lp_range {lo : Int} {n : Nat} (Pv : Nat → L2.St → Hp → Prop) (h0 : Pv 0 σ H) (hs : ∀ i σ H, i < n → Pv i σ H → g (.int (lo + i)) σ H fun σ2 H2 => t { D with nx := Hd (Pv (i + 1)) .mk, ct := Hd (Pv (i + 1)) .mk, bk := D.nx } σ2 H2)
    (hd : ∀ σ H, Pv n σ H → D.nx σ H) : Lp (Itr lo n) g t D .mk .mk .mk σ H := for_range Pv h0 hs hd
theorem lp_list {K : PySem.W.Frag} {a : Addr} (xs : List V) (Pv : Nat → L2.St → Hp → Prop) (h0 : Pv 0 σ H) (hl : ∀ i σ H, i ≤ xs.length → Pv i σ H → H a = some (.lst xs))
    (hs : ∀ i x σ H, xs[i]? = some x → Pv i σ H → g x σ H fun σ2 H2 => t { D with nx := Hd (Pv (i + 1)) .mk, ct := Hd (Pv (i + 1)) .mk, bk := D.nx } σ2 H2) (hd : ∀ σ H, Pv xs.length σ H → D.nx σ H) : Lp (Itl K a) g t D .mk .mk .mk σ H :=
  for_list Pv h0 (fun i σ H hi p => SqL.of (hl i σ H hi p)) hs hd
theorem lp_tup {K : PySem.W.Frag} {a : Addr} (xs : List V) (Pv : Nat → L2.St → Hp → Prop) (h0 : Pv 0 σ H) (hl : ∀ i σ H, i ≤ xs.length → Pv i σ H → H a = some (.tup xs))
    (hs : ∀ i x σ H, xs[i]? = some x → Pv i σ H → g x σ H fun σ2 H2 => t { D with nx := Hd (Pv (i + 1)) .mk, ct := Hd (Pv (i + 1)) .mk, bk := D.nx } σ2 H2) (hd : ∀ σ H, Pv xs.length σ H → D.nx σ H) : Lp (Itt K a) g t D .mk .mk .mk σ H :=
  for_tup Pv h0 (fun i σ H hi p => SqT.of (hl i σ H hi p)) hs hd
theorem lp_str (l : List Nat) (Pv : Nat → L2.St → Hp → Prop) (h0 : Pv 0 σ H) (hs : ∀ i c σ H, l[i]? = some c → Pv i σ H → g (.str (sL [c])) σ H fun σ2 H2 => t { D with nx := Hd (Pv (i + 1)) .mk, ct := Hd (Pv (i + 1)) .mk, bk := D.nx } σ2 H2)
    (hd : ∀ σ H, Pv l.length σ H → D.nx σ H) : Lp (Its (sL l)) g t D .mk .mk .mk σ H := by
  refine for_it (walk_str (z := sL l)) Pv h0 (fun _ _ _ _ _ => trivial) ?_ (fun σ H p => hd σ H (by simpa using p))
  rintro i x σ H H' hi p ⟨rfl, c, hc, rfl⟩
  exact hs i c σ _ (by simpa using hc) p

/-- what a comprehension asks once its iterator has come; D the new list -/
def LpC (J : It) (g : TG) (tt : TT) (te : TE) (_ : Seal g) (_ : Seal tt) (_ : Seal te) (vs : List Nat) (σw : L2.St) (D : Addr) (H1 : Hp) (Q : VK) (_ : Seal Q) : Prop := ∃ W : Nat → Nat → Hp → Prop, (∃ m, W 0 m (upd H1 D (.lst []))) ∧ ∀ i m H, W i m H →
  (J.stop i H ∧ Q (.ref D) H) ∨ (J.go i H ∧ ∃ Nx : Hp → Prop, (∀ H', Nx H' → ∃ m', m' < m ∧ W (i + 1) m' H') ∧ ∀ x H', J.yld i H x H' → g x σw H' fun σ2 H2 => wipe σ2 vs = σw ∧ tt σ2 H2 fun b H3 =>
    if b = true then te σ2 H3 fun y H4 => ∃ acc, H4 D = some (.lst acc) ∧ acc.length < sizeLine ∧ Nx (upd H4 D (.lst (acc ++ [y]))) else Nx H3)
theorem w_lc {wi : TI} {vs : List Nat} : tLc wi g c te vs σ H Q = wi σ H fun J H1 => ∀ D, H1 D = none → LpC J g c te .mk .mk .mk vs (wipe σ vs) D H1 Q .mk := rfl
theorem w_wipe0 : wipe σ [] = σ := rfl
theorem w_wipe {v : Nat} {vs : List Nat} : wipe σ (v :: vs) = (wipe σ vs).set v none := rfl
/-- a comprehension by any walk: R what holds of the heap ahead of turn i besides the new list, acc what that list holds then -/
theorem lpc_it {J : It} {n : Nat} {G : Hp → Prop} {Y : Nat → Hp → V → Hp → Prop} (w : Walk J n G Y) {vs : List Nat} {D : Addr} {H1 : Hp} {σw : L2.St} (hw : σw = wipe σw vs) (hD : H1 D = none) (R : Nat → Hp → Prop) (acc : Nat → List V) (hacc : ∀ i, i ≤ n → (acc i).length ≤ i) (hn : n ≤ 16777216) (h0 : acc 0 = [])
    (hR0 : R 0 (upd H1 D (.lst []))) (hG : ∀ i H, i ≤ n → R i H → G H)
    (hs : ∀ i x H H' (N : VK) (M : Hp → Prop), i < n → R i H → H D = some (.lst (acc i)) → Y i H x H' →
      (∀ y H4, H4 D = some (.lst (acc i)) → acc (i + 1) = acc i ++ [y] → R (i + 1) (upd H4 D (.lst (acc (i + 1)))) → N y H4) → (∀ H4, H4 D = some (.lst (acc i)) → acc (i + 1) = acc i → R (i + 1) H4 → M H4) →
      g x σw H' fun σ2 H2 => wipe σ2 vs = σw ∧ c σ2 H2 fun b H3 => if b = true then te σ2 H3 N else M H3)
    (hd : ∀ H, R n H → H D = some (.lst (acc n)) → Q (.ref D) H) : LpC J g c te .mk .mk .mk vs σw D H1 Q .mk := by
  obtain ⟨σ0, h00⟩ : ∃ σ0, σw = wipe σ0 vs := ⟨σw, hw⟩
  clear hw
  subst h00
  refine lc_it w (fun i H => i ≤ n ∧ R i H ∧ H D = some (.lst (acc i))) ⟨Nat.zero_le _, hR0, by rw [upd_same, h0]⟩ (fun i H hi p => hG i H hi p.2.1) ?_ (fun H p => hd H p.2.1 p.2.2)
  rintro i x H H' hi ⟨_, p1, p2⟩ y
  refine hs i x H H' _ _ hi p1 p2 y (fun y H4 e1 e2 e3 => ⟨acc i, e1, ?_, by omega, ?_, ?_⟩) (fun H4 e1 e2 e3 => ⟨by omega, e3, by rw [e2]; exact e1⟩)
  · have := hacc i (by omega)
    show _ < 2 ^ 24
    omega
  · rw [← e2]
    exact e3
  · rw [e2]
    exact upd_same
end
/-- a new object: the heap behind it by a letter -/
theorem w_new {H : Hp} {o : HO} {R : V → Hp → Prop} (h : ∀ p H', H p = none → Same H H' → H' p = some o → R (.ref p) H') : ∀ p, H p = none → R (.ref p) (upd H p o) := fun p hp => h p _ hp (sm_new hp) upd_same
/-- an object changed: the heap behind it by a letter -/
theorem w_put {H : Hp} {p : Addr} {o : HO} {R : Hp → Prop} (h : ∀ H', H' p = some o → (∀ q, q ≠ p → H' q = H q) → R H') : R (upd H p o) := h _ upd_same fun _ n => upd_ne n
theorem upd_get {H : Hp} {a b : Addr} {o : HO} : upd H a o b = if b = a then some o else H b := rfl
section
variable {σ : L2.St} {H : Hp} {Q : VK} {c : TT} {te : TE} {g : TG}
theorem take_fm {α β : Type} (f : α → Option β) {items : List α} {i : Nat} {a : α} (h : items[i]? = some a) : (items.take (i + 1)).filterMap f = (items.take i).filterMap f ++ (f a).toList := by
  rw [List.take_add_one, h, List.filterMap_append]
  cases e : f a <;> simp [e]
/-- a comprehension whose items are told by f (none: left out) -/
theorem lpc_gen {α : Type} {J : It} {G : Hp → Prop} {items : List α} {emb : α → V} (w : Walk J items.length G (fun i H x H' => H' = H ∧ ∃ a, items[i]? = some a ∧ x = emb a)) {vs : List Nat} {D : Addr} {H1 : Hp} {σw : L2.St} (hw : σw = wipe σw vs) (hD : H1 D = none) (hn : items.length ≤ 16777216)
    (f : α → Option V) (R : Hp → Prop) (hR0 : R H1) (hRD : ∀ H o, R H → R (upd H D o)) (hG : ∀ H, R H → G H)
    (hs : ∀ a H (N : VK) (M : Hp → Prop), a ∈ items → R H → (∃ acc, H D = some (.lst acc) ∧ (∀ v H4, f a = some v → R H4 → H4 D = some (.lst acc) → N v H4) ∧ (∀ H4, f a = none → R H4 → H4 D = some (.lst acc) → M H4)) →
      g (emb a) σw H fun σ2 H2 => wipe σ2 vs = σw ∧ c σ2 H2 fun b H3 => if b = true then te σ2 H3 N else M H3)
    (hd : ∀ H, R H → H D = some (.lst (items.filterMap f)) → Q (.ref D) H) : LpC J g c te .mk .mk .mk vs σw D H1 Q .mk := by
  refine lpc_it w hw hD (fun _ H => R H) (fun i => (items.take i).filterMap f) (fun i hi => ?_) hn rfl (hRD _ _ hR0) (fun i H hi p => hG H p) ?_ (fun H p q => hd H p (by rw [q, List.take_length]))
  · exact Nat.le_trans (List.length_filterMap_le _ _) (by rw [List.length_take]; omega)
  · rintro i x H H' N M hi p q ⟨rfl, a, ha, rfl⟩ hN hM
    refine hs a H' N M (List.mem_of_getElem? ha) p ⟨_, q, fun v H4 e1 e2 e3 => hN v H4 e3 ?_ (hRD _ _ e2), fun H4 e1 e2 e3 => hM H4 e3 ?_ e2⟩
    · rw [take_fm f ha, e1]
      rfl
    · rw [take_fm f ha, e1]
      simp
theorem walkS (l : List Nat) : Walk (Its (sL l)) l.length (fun _ => True) (fun i H x H' => H' = H ∧ ∃ a, l[i]? = some a ∧ x = V.str (sL [a])) := by
  have w := walk_str (z := sL l)
  have e : (sL l).cps.size = l.length := by simp
  rw [e] at w
  refine w.mono (fun _ h => h) fun i H x H' hi _ y => ?_
  obtain ⟨h1, a, h2, h3⟩ := y
  exact ⟨h1, a, by simpa using h2, h3⟩
theorem walkR (lo : Int) (n : Nat) : Walk (Itr lo n) (List.range n).length (fun _ => True) (fun i H x H' => H' = H ∧ ∃ a, (List.range n)[i]? = some a ∧ x = V.int (lo + a)) := by
  have w := walk_range (lo := lo) (n := n)
  rw [List.length_range]
  refine w.mono (fun _ h => h) fun i H x H' hi _ y => ?_
  exact ⟨y.1, i, by simp [hi], y.2⟩
theorem walkL {K : PySem.W.Frag} {a : Addr} (xs : List V) : Walk (Itl K a) xs.length (fun H => H a = some (.lst xs)) (fun i H x H' => H' = H ∧ ∃ b, xs[i]? = some b ∧ x = b) := by
  refine (walk_list (K := K) (a := a) (xs := xs)).mono (fun H h => SqL.of h) fun i H x H' hi _ y => ?_
  exact ⟨y.1, x, y.2, rfl⟩
end

/-! ### the readings by values, case by case -/
section
variable {H : Hp} {Q : VK} {p q : Addr} {i j : Int} {a b z : Str} {x y v : V} {k m : Bool}
theorem f_add1 : rAddF (.int i) (.int j) H Q = Q (.int (i + j)) H := rfl
theorem f_add2 : rAddF (.str a) (.str b) H Q = (a.length + b.length ≤ 16777216 ∧ Q (.str (a ++ b)) H) := rfl
theorem f_add3 : rAddF (.ref p) (.ref q) H Q = addO (H p) (H q) H Q := rfl
theorem f_addO {xs ys : List V} : addO (some (.lst xs)) (some (.lst ys)) H Q = (xs.length + ys.length ≤ 16777216 ∧ New H (.lst (xs ++ ys)) Q .mk) := rfl
theorem f_iadd1 : rIaddF (.int i) (.int j) H Q = Q (.int (i + j)) H := rfl
theorem f_iadd2 : rIaddF (.str a) (.str b) H Q = (a.length + b.length ≤ 16777216 ∧ Q (.str (a ++ b)) H) := rfl
theorem f_sub : rSubF (.int i) (.int j) H Q = Q (.int (i - j)) H := rfl
theorem f_mul1 : rMulF (.int i) (.int j) H Q = (CMul i j ∧ Q (.int (i * j)) H) := rfl
theorem f_mul2 : rMulF (.str a) (.int j) H Q = (0 ≤ j ∧ a.length * j.toNat ≤ 16777216 ∧ j ≤ 16777216 ∧ Q (.str (sL (repL (tl a) j.toNat))) H) := rfl
theorem f_mul3 : rMulF (.ref p) (.int j) H Q = mulO (H p) j H Q := rfl
theorem f_mulO {xs : List V} : mulO (some (.lst xs)) j H Q = (-(2 ^ 63) ≤ j ∧ j < 2 ^ 63 ∧ xs.length * j.toNat ≤ 16777216 ∧ New H (.lst (List.replicate j.toNat xs).flatten) Q .mk) := rfl
theorem f_fdiv : rFdivF (.int i) (.int j) H Q = (CDiv i j ∧ Q (.int (i / j)) H) := rfl
theorem f_mod : rModF (.int i) (.int j) H Q = (0 < j ∧ Q (.int (i % j)) H) := rfl
theorem f_pow : rPowF (.int i) (.int j) H Q = (CPow i j ∧ Q (.int (i ^ j.toNat)) H) := rfl
theorem f_lt : rLtF (.int i) (.int j) H Q = Q (.bl (decide (i < j))) H := rfl
theorem f_le : rLeF (.int i) (.int j) H Q = Q (.bl (decide (i ≤ j))) H := rfl
theorem f_gt : rGtF (.int i) (.int j) H Q = Q (.bl (decide (j < i))) H := rfl
theorem f_ge : rGeF (.int i) (.int j) H Q = Q (.bl (decide (j ≤ i))) H := rfl
theorem f_eq1 : rEqF (.int i) (.int j) H Q = Q (.bl (decide (i = j))) H := rfl
theorem f_eq2 : rEqF (.str a) (.str b) H Q = Q (.bl (decide (a = b))) H := rfl
theorem f_eq3 : rEqF (.bl k) (.bl m) H Q = Q (.bl (decide (k = m))) H := rfl
theorem f_eq4 : rEqF .non .non H Q = Q (.bl true) H := rfl
theorem f_eq5 : rEqF .non (.int i) H Q = Q (.bl false) H := rfl
theorem f_eq6 : rEqF .non (.str a) H Q = Q (.bl false) H := rfl
theorem f_eq7 : rEqF (.int i) (.str a) H Q = Q (.bl false) H := rfl
theorem f_eq8 : rEqF (.str a) (.int i) H Q = Q (.bl false) H := rfl
theorem f_eq9 : rEqF (.int i) .non H Q = Q (.bl false) H := rfl
theorem f_eq10 : rEqF (.str a) .non H Q = Q (.bl false) H := rfl
theorem f_ne1 : rNeF (.int i) (.int j) H Q = Q (.bl (!decide (i = j))) H := by simp [rNeF, rEqF]
theorem f_ne2 : rNeF (.str a) (.str b) H Q = Q (.bl (!decide (a = b))) H := by simp [rNeF, rEqF]
theorem f_ne3 : rNeF (.bl k) (.bl m) H Q = Q (.bl (!decide (k = m))) H := by simp [rNeF, rEqF]
theorem f_ne4 : rNeF .non .non H Q = Q (.bl false) H := by simp [rNeF, rEqF]
theorem f_ne5 : rNeF .non (.int i) H Q = Q (.bl true) H := by simp [rNeF, rEqF]
theorem f_ne6 : rNeF .non (.str a) H Q = Q (.bl true) H := by simp [rNeF, rEqF]
theorem f_in {n : Nat} : rInF (.str (sL [n])) (.str z) H Q = Q (.bl (decide (n ∈ z.cps.toList))) H := by
  unfold rInF
  simp
theorem f_notIn {n : Nat} : rNotInF (.str (sL [n])) (.str z) H Q = Q (.bl (!decide (n ∈ z.cps.toList))) H := by
  unfold rNotInF
  simp
theorem f_ix1 : rIxF (.ref p) (.int i) H Q = atO (H p) i H Q := rfl
theorem f_ix2 : rIxF (.str z) (.int i) H Q = (z.length ≤ 16777216 ∧ (match atI z.cps.toList i with | some c => Q (.str (sL [c])) H | none => False)) := rfl
theorem f_at1 {xs : List V} : atO (some (.lst xs)) i H Q = (match atI xs i with | some v => Q v H | none => False) := rfl
theorem f_at2 {xs : List V} : atO (some (.tup xs)) i H Q = (match atI xs i with | some v => Q v H | none => False) := rfl
theorem f_sl1 {lo hi : Option Int} : rSlF (.ref p) lo hi H Q = slO (H p) lo hi H Q := rfl
theorem f_slO {xs : List V} {lo hi : Option Int} : slO (some (.lst xs)) lo hi H Q = New H (.lst (cutV xs lo hi)) Q .mk := rfl
theorem f_sl2 {lo hi : Option Int} : rSlF (.str z) lo hi H Q = (z.length ≤ 16777216 ∧ Q (.str (cutS z lo hi)) H) := rfl
def setO (o : Option HO) (p : Addr) (i : Int) (v : V) (H : Hp) (R : Hp → Prop) : Prop := match o with
  | some (.lst xs) => (match ixN xs.length i with | some j => R (upd H p (.lst (xs.set j v))) | none => False)
  | _ => False
theorem f_set {R : Hp → Prop} : rSetF (.ref p) (.int i) v H R = setO (H p) p i v H R := rfl
theorem f_setO {xs : List V} {R : Hp → Prop} : setO (some (.lst xs)) p i v H R = (match ixN xs.length i with | some j => R (upd H p (.lst (xs.set j v))) | none => False) := rfl
theorem f_len1 : rLenF [.str z] H Q = (z.length ≤ 16777216 ∧ Q (.int (z.length : Int)) H) := rfl
theorem f_len2 : rLenF [.ref p] H Q = lenO (H p) H Q := rfl
theorem f_lenO1 {xs : List V} : lenO (some (.lst xs)) H Q = Q (.int (xs.length : Int)) H := rfl
theorem f_lenO2 {xs : List V} : lenO (some (.tup xs)) H Q = Q (.int (xs.length : Int)) H := rfl
theorem f_abs : rAbsF [.int i] H Q = Q (.int (if i < 0 then -i else i)) H := rfl
theorem f_max1 : rMaxF [.int i, .int j] H Q = Q (.int (if j > i then j else i)) H := rfl
theorem f_max2 : rMaxF [.ref p] H Q = maxO (H p) H Q := rfl
theorem f_min1 : rMinF [.int i, .int j] H Q = Q (.int (if j < i then j else i)) H := rfl
theorem f_min2 : rMinF [.ref p] H Q = minO (H p) H Q := rfl
theorem f_maxO {ns : List Int} : maxO (some (.lst (ns.map V.int))) H Q = (0 < ns.length ∧ ∀ m, m ∈ ns → (∀ y, y ∈ ns → y ≤ m) → Q (.int m) H) := by
  unfold maxO
  simp only [asInts_map]
theorem f_minO {ns : List Int} : minO (some (.lst (ns.map V.int))) H Q = (0 < ns.length ∧ ∀ m, m ∈ ns → (∀ y, y ∈ ns → m ≤ y) → Q (.int m) H) := by
  unfold minO
  simp only [asInts_map]
theorem f_int1 : rIntF [.int i] H Q = Q (.int i) H := rfl
theorem f_int2 : rIntF [.bl k] H Q = Q (.int (if k then 1 else 0)) H := rfl
theorem f_int3 : rIntF [.str a] H Q = (match PySem.intText? a with | some n => a.length ≤ 640 ∧ Q (.int n) H | none => False) := rfl
theorem f_str : rStrF [.int i] H Q = (i.natAbs.log2 < 1920 ∧ Q (.str (toString i)) H) := rfl
theorem f_list : rListF [.ref p] H Q = listO (H p) H Q := rfl
theorem f_listO1 {xs : List V} : listO (some (.lst xs)) H Q = New H (.lst xs) Q .mk := rfl
theorem f_listO2 {xs : List V} : listO (some (.tup xs)) H Q = New H (.lst xs) Q .mk := rfl
theorem f_tup : rTupF [.ref p] H Q = tupO p (H p) H Q := rfl
theorem f_tupO1 {xs : List V} : tupO p (some (.lst xs)) H Q = New H (.tup xs) Q .mk := rfl
theorem f_tupO2 {xs : List V} : tupO p (some (.tup xs)) H Q = Q (.ref p) H := rfl
theorem f_sum : rSumF [.ref p] H Q = sumO (H p) H Q := rfl
theorem f_sumO {ns : List Int} : sumO (some (.lst (ns.map V.int))) H Q = Q (.int ns.sum) H := by
  unfold sumO
  simp only [asInts_map]
theorem f_all : rAllF [.ref p] H Q = allO (H p) H Q := rfl
theorem f_allO {ns : List Bool} : allO (some (.lst (ns.map V.bl))) H Q = Q (.bl (ns.all id)) H := by
  unfold allO
  simp only [asBools_map]
theorem f_isi {T : String} : rIsiF [x, .ty T] H Q = (match tyF x H with | some U => okTy T = true ∧ Q (.bl (subTy U T)) H | none => False) := rfl
def tyO (o : Option HO) : Option String := match o with
  | some (.lst _) => some "list"
  | some (.tup _) => some "tuple"
  | some (.dK _) => some "dict"
  | some (.dT _) => some "dict"
  | _ => none
theorem f_ty1 : tyF .non H = some "NoneType" := rfl
theorem f_ty2 : tyF (.bl k) H = some "bool" := rfl
theorem f_ty3 : tyF (.int i) H = some "int" := rfl
theorem f_ty4 : tyF (.str a) H = some "str" := rfl
theorem f_ty5 : tyF (.ref p) H = tyO (H p) := rfl
theorem f_tyO1 {xs : List V} : tyO (some (.lst xs)) = some "list" := rfl
theorem f_tyO2 {xs : List V} : tyO (some (.tup xs)) = some "tuple" := rfl
def isLO (o : Option HO) : Prop := match o with | some (.lst _) => True | _ => False
theorem f_isL : isL (.ref p) H = isLO (H p) := rfl
theorem f_isLO {xs : List V} : isLO (some (.lst xs)) = True := rfl
def appO (o : Option HO) (l : Addr) (y : V) (H : Hp) (Q : VK) : Prop := match o with | some (.lst xs) => xs.length < 16777216 ∧ Q .non (upd H l (.lst (xs ++ [y]))) | _ => False
theorem f_app : rAppF (.ref p) [y] H Q = appO (H p) p y H Q := rfl
theorem f_appO {xs : List V} : appO (some (.lst xs)) p y H Q = (xs.length < 16777216 ∧ Q .non (upd H p (.lst (xs ++ [y])))) := rfl
def popO (o : Option HO) (l : Addr) (H : Hp) (Q : VK) : Prop := match o with | some (.lst xs) => (match xs[xs.length - 1]? with | some y => Q y (upd H l (.lst xs.dropLast)) | none => False) | _ => False
def popAtO (o : Option HO) (l : Addr) (i : Int) (H : Hp) (Q : VK) : Prop := match o with | some (.lst xs) => 0 ≤ i ∧ (match xs[i.toNat]? with | some y => i < 16777216 ∧ Q y (upd H l (.lst (xs.eraseIdx i.toNat))) | none => False) | _ => False
theorem f_pop1 : rPopF (.ref p) [] H Q = popO (H p) p H Q := rfl
theorem f_pop2 : rPopF (.ref p) [.int i] H Q = popAtO (H p) p i H Q := rfl
theorem f_popO {xs : List V} : popO (some (.lst xs)) p H Q = (match xs[xs.length - 1]? with | some y => Q y (upd H p (.lst xs.dropLast)) | none => False) := rfl
theorem f_popAtO {xs : List V} : popAtO (some (.lst xs)) p i H Q = (0 ≤ i ∧ (match xs[i.toNat]? with | some y => i < 16777216 ∧ Q y (upd H p (.lst (xs.eraseIdx i.toNat))) | none => False)) := rfl
def clearO (o : Option HO) (l : Addr) (H : Hp) (Q : VK) : Prop := match o with | some (.lst _) => Q .non (upd H l (.lst [])) | _ => False
theorem f_clear : rClearF (.ref p) [] H Q = clearO (H p) p H Q := rfl
theorem f_clearO {xs : List V} : clearO (some (.lst xs)) p H Q = Q .non (upd H p (.lst [])) := rfl
def extO (o u : Option HO) (l : Addr) (H : Hp) (Q : VK) : Prop := match o, u with | some (.lst xs), some (.lst zs) => xs.length + zs.length ≤ 16777216 ∧ Q .non (upd H l (.lst (xs ++ zs))) | _, _ => False
theorem f_ext : rExtF (.ref p) [.ref q] H Q = extO (H p) (H q) p H Q := rfl
theorem f_extO {xs zs : List V} : extO (some (.lst xs)) (some (.lst zs)) p H Q = (xs.length + zs.length ≤ 16777216 ∧ Q .non (upd H p (.lst (xs ++ zs)))) := rfl
theorem f_join : rJoinF (.str a) [.ref p] H Q = joinO a (H p) H Q := rfl
theorem f_joinO {ws : List (List Nat)} : joinO a (some (.lst (ws.map fun l => V.str (sL l)))) H Q = ((ws.map (·.length)).sum + ws.length * a.length ≤ 16777216 ∧ Q (.str (sL (TL.joinL (tl a) ws))) H) := by
  unfold joinO
  simp only [asCodes_map]
theorem f_split {n : Nat} : rSplitF (.str a) [.str (sL [n])] H Q = (n < 256 ∧ a.length ≤ 16777214 ∧ New H (.lst ((splitL n (tl a)).map fun l => V.str (sL l))) Q .mk) := by
  unfold rSplitF
  apply propext
  constructor
  · rintro ⟨c, h1, h2⟩
    have e := sL_inj h1
    cases e
    exact h2
  · intro h
    exact ⟨n, rfl, h⟩
theorem tl_s (l : List Nat) : tl (sL l) = l := rfl
theorem cps_s (l : List Nat) : (sL l).cps.toList = l := rfl
end
end CM

/-! trips and their texts, plain -/
namespace CM
open PySem L2
def digB (c : Nat) : Bool := decide (48 ≤ c) && decide (c ≤ 57)
theorem digB_iff {c : Nat} : digB c = true ↔ 48 ≤ c ∧ c ≤ 57 := by simp [digB]
def Trip (l : List Nat) : Prop := l.length ≤ 2000 ∧ ∀ c ∈ l, digB c = true
def tenD : List Nat := [48, 49, 50, 51, 52, 53, 54, 55, 56, 57]
theorem mem_ten {c : Nat} : c ∈ tenD ↔ 48 ≤ c ∧ c ≤ 57 := by
  unfold tenD
  simp only [List.mem_cons, List.not_mem_nil, or_false]
  omega
theorem dec_ten (c : Nat) : decide (c ∈ tenD) = digB c := by
  rw [Bool.eq_iff_iff, decide_eq_true_eq, mem_ten, digB_iff]

/-! ### places from the end -/
theorem at_last {α : Type} (l : List α) : atI l (-1) = l[l.length - 1]? := by
  unfold atI ixN
  by_cases h : l = []
  · subst h
    rfl
  · have h1 : 0 < l.length := List.length_pos_iff.mpr h
    rw [if_neg (by omega), if_pos (by omega)]
    show l[(-1 + (l.length : Int)).toNat]? = _
    congr 1
    omega
theorem at_last2 {α : Type} (l : List α) (h : 2 ≤ l.length) : atI l (-2) = l[l.length - 2]? := by
  unfold atI ixN
  rw [if_neg (by omega), if_pos (by omega)]
  show l[(-2 + (l.length : Int)).toNat]? = _
  congr 1
  omega
theorem at_nat {α : Type} (l : List α) (i : Nat) (h : i < l.length) : atI l (i : Int) = l[i]? := by
  unfold atI ixN
  rw [if_pos (by omega), if_pos (by omega)]
  show l[((i : Nat) : Int).toNat]? = _
  rw [Int.toNat_natCast]
theorem at_head {α : Type} (c : α) (r : List α) : atI (c :: r) 0 = some c := by
  have h := at_nat (c :: r) 0 (by simp)
  exact h
theorem at_int {α : Type} (l : List α) (i : Int) (h0 : 0 ≤ i) (h : i < l.length) : atI l i = l[i.toNat]? := by
  unfold atI ixN
  rw [if_pos h0, if_pos h]
  rfl
theorem at_nn {α : Type} {l : List α} {i : Int} (h : 0 ≤ i) : atI l i = l[i.toNat]? := by
  unfold atI ixN
  rw [if_pos h]
  by_cases h2 : i < l.length
  · rw [if_pos h2]
    rfl
  · rw [if_neg h2, List.getElem?_eq_none (by omega)]
    rfl
theorem ix_nn {n : Nat} {i : Int} (h : 0 ≤ i) (h2 : i < n) : ixN n i = some i.toNat := by
  unfold ixN
  rw [if_pos h, if_pos h2]
theorem cut_m2 (l : List Nat) : cutS (sL l) none (some (-2)) = sL (l.take (l.length - 2)) := by
  unfold cutS
  rw [len_sL]
  have e : HT.sIx l.length l.length (some (-2)) = l.length - 2 := by
    show (if (-2 : Int) < 0 then ((-2 : Int) + (l.length : Int)).toNat else min (-2 : Int).toNat l.length) = _
    rw [if_pos (by decide)]
    omega
  have e0 : HT.sIx l.length 0 none = 0 := rfl
  rw [e, e0]
  rfl
theorem cut_1 (l : List Nat) : cutS (sL l) (some (-1)) none = sL (l.drop (l.length - 1)) := by
  unfold cutS
  rw [len_sL]
  have e : HT.sIx l.length 0 (some (-1)) = l.length - 1 := by
    show (if (-1 : Int) < 0 then ((-1 : Int) + (l.length : Int)).toNat else min (-1 : Int).toNat l.length) = _
    rw [if_pos (by decide)]
    omega
  have e0 : HT.sIx l.length l.length none = l.length := rfl
  rw [e, e0]
  show (⟨((l.drop (l.length - 1)).take (l.length - (l.length - 1))).toArray⟩ : Str) = _
  rw [List.take_of_length_le (by rw [List.length_drop]; omega)]
theorem cut_to (l : List Nat) (n : Nat) : cutS (sL l) none (some (n : Int)) = sL (l.take n) := by
  unfold cutS
  rw [len_sL]
  have e : HT.sIx l.length l.length (some (n : Int)) = min n l.length := by
    show (if (n : Int) < 0 then ((n : Int) + (l.length : Int)).toNat else min (n : Int).toNat l.length) = _
    rw [if_neg (by omega), Int.toNat_natCast]
  have e0 : HT.sIx l.length 0 none = 0 := rfl
  rw [e, e0]
  show (⟨(l.take (min n l.length - 0)).toArray⟩ : Str) = _
  rw [Nat.sub_zero, ← List.take_take, List.take_length]
theorem cut_from (l : List Nat) (n : Nat) : cutS (sL l) (some (n : Int)) none = sL (l.drop n) := by
  unfold cutS
  rw [len_sL]
  have e : HT.sIx l.length 0 (some (n : Int)) = min n l.length := by
    show (if (n : Int) < 0 then ((n : Int) + (l.length : Int)).toNat else min (n : Int).toNat l.length) = _
    rw [if_neg (by omega), Int.toNat_natCast]
  have e0 : HT.sIx l.length l.length none = l.length := rfl
  rw [e, e0]
  show (⟨((l.drop (min n l.length)).take (l.length - min n l.length)).toArray⟩ : Str) = _
  rw [List.take_of_length_le (by rw [List.length_drop]; omega)]
  by_cases h : n ≤ l.length
  · rw [Nat.min_eq_left h]
  · rw [Nat.min_eq_right (by omega), List.drop_length, List.drop_of_length_le (by omega)]
theorem drop_last (l : List Nat) (c : Nat) : (sL (l.drop (l.length - 1)) = sL [c]) ↔ l.getLast? = some c := by
  constructor
  · intro h
    have e := sL_inj h
    rcases List.eq_nil_or_concat l with rfl | ⟨m, d, rfl⟩
    · cases e
    · rw [List.concat_eq_append, List.getLast?_concat]
      rw [List.concat_eq_append, List.length_append, List.length_singleton, Nat.add_sub_cancel, List.drop_left] at e
      cases e
      rfl
  · intro h
    rcases List.eq_nil_or_concat l with rfl | ⟨m, d, rfl⟩
    · cases h
    · rw [List.concat_eq_append, List.getLast?_concat] at h
      cases h
      rw [List.concat_eq_append, List.length_append, List.length_singleton, Nat.add_sub_cancel, List.drop_left]

/-! ### numbers in words -/
theorem numL_head {n : Nat} (h : 0 < n) : (TL.numL n).head? ≠ some 48 := by
  induction n using Nat.strongRecOn with
  | _ n ih =>
    by_cases h1 : n < 10
    · rw [TL.numL_lt h1]
      intro e
      have : 48 + n = 48 := Option.some.inj e
      omega
    · rw [TL.numL_step (by omega)]
      have e : (TL.numL (n / 10) ++ [48 + n % 10]).head? = (TL.numL (n / 10)).head? := by
        rw [List.head?_append]
        cases hh : TL.numL (n / 10) with
        | nil => exact absurd hh (TL.numL_ne _)
        | cons a r => rfl
      rw [e]
      exact ih (n / 10) (by omega) (by omega)
def okNum (w : List Nat) (len : Nat) : Bool := decide (1 ≤ w.length) && decide (w.length ≤ len) && w.all digB && !decide (w.head? = some 48)
def numberIn (w : List Nat) (most : Nat) : Nat := if okNum w (TL.numL most).length = true then (if NumText.digitsVal w ≤ most then NumText.digitsVal w else 0) else 0
theorem len2000 : (TL.numL 2000).length = 4 := by decide +kernel
theorem allDig_num (n : Nat) : (TL.numL n).all digB = true := by
  rw [List.all_eq_true]
  intro c hc
  exact digB_iff.mpr (TL.numL_digits n c hc)
theorem numberIn_num {n : Nat} (h1 : 1 ≤ n) (h2 : n ≤ 2000) : numberIn (TL.numL n) 2000 = n := by
  unfold numberIn
  have hl : 1 ≤ (TL.numL n).length := List.length_pos_iff.mpr (TL.numL_ne n)
  have ho : okNum (TL.numL n) (TL.numL 2000).length = true := by
    unfold okNum
    rw [len2000, allDig_num, decide_eq_true hl, decide_eq_true (TL.numL_len (k := 4) (by decide) (by omega)), decide_eq_false (numL_head h1)]
    rfl
  rw [if_pos ho, TL.numL_val, if_pos h2]

/-! ### from_text -/
def ftStep (trip w : List Nat) : Option (List Nat) :=
  if numberIn (w.take (w.length - 2)) 2000 = 0 then none else
    match w[w.length - 2]?, w[w.length - 1]? with
    | some x, some c => if x = 120 ∧ digB c = true ∧ trip.getLast? ≠ some c ∧ trip.length + numberIn (w.take (w.length - 2)) 2000 ≤ 2000 then some (trip ++ List.replicate (numberIn (w.take (w.length - 2)) 2000) c) else none
    | _, _ => none
def fromTextL (l : List Nat) : Option (List Nat) := if l = [] then some [] else (splitL 32 l).foldlM ftStep []

/-! ### the stretches of a trip -/
def rst (l : List Nat) (st : List (Nat × Nat × Nat) × Nat) (t : Nat) : List (Nat × Nat × Nat) × Nat :=
  if t = l.length ∨ l[t]? ≠ l[st.2]? then (st.1 ++ [(l.getD st.2 0, st.2, t)], t) else st
def rf (l : List Nat) : Nat → List (Nat × Nat × Nat) × Nat
  | 0 => ([], 0)
  | i + 1 => rst l (rf l i) (i + 1)
def runs (l : List Nat) : List (Nat × Nat × Nat) := (rf l l.length).1
def wordOf (r : Nat × Nat × Nat) : List Nat := TL.numL (r.2.2 - r.2.1) ++ [120, r.1]
def shortL (l : List Nat) : List Nat := TL.joinL [32] ((runs l).map wordOf)

structure RInv (l : List Nat) (i : Nat) (rs : List (Nat × Nat × Nat)) (b : Nat) : Prop where
  le : b ≤ i
  eqs : ∀ j, b ≤ j → j ≤ i → j < l.length → l[j]? = l[b]?
  rd : (rs.map wordOf).foldlM ftStep [] = some (l.take b)
  ne : 0 < b → b < l.length → l[b]? ≠ l[b - 1]?
  cs : ∀ r ∈ rs, r.1 ∈ l ∧ r.2.1 < r.2.2 ∧ r.2.2 ≤ i
  full : 0 < l.length → i = l.length → b = l.length
  few : rs.length ≤ i
theorem getD_of {l : List Nat} {b : Nat} (h : b < l.length) : l[b]? = some (l.getD b 0) := by
  rw [List.getD_eq_getElem?_getD, List.getElem?_eq_getElem h]
  rfl
theorem word_step {l : List Nat} (hT : Trip l) {b t : Nat} (hb : b < t) (ht : t ≤ l.length) (heq : ∀ j, b ≤ j → j < t → l[j]? = l[b]?) (hne : 0 < b → l[b]? ≠ l[b - 1]?) :
    ftStep (l.take b) (wordOf (l.getD b 0, b, t)) = some (l.take t) := by
  have hbl : b < l.length := by omega
  have h2 := hT.1
  have e1 : (wordOf (l.getD b 0, b, t)).length = (TL.numL (t - b)).length + 2 := by
    unfold wordOf
    rw [List.length_append]
    rfl
  have e2 : (wordOf (l.getD b 0, b, t)).take ((wordOf (l.getD b 0, b, t)).length - 2) = TL.numL (t - b) := by
    rw [e1]
    unfold wordOf
    rw [Nat.add_sub_cancel, List.take_left]
  have e3 : (wordOf (l.getD b 0, b, t))[(wordOf (l.getD b 0, b, t)).length - 2]? = some 120 := by
    rw [e1]
    unfold wordOf
    rw [Nat.add_sub_cancel, List.getElem?_append_right (Nat.le_refl _), Nat.sub_self]
    rfl
  have e4 : (wordOf (l.getD b 0, b, t))[(wordOf (l.getD b 0, b, t)).length - 1]? = some (l.getD b 0) := by
    rw [e1]
    show (TL.numL (t - b) ++ [120, l.getD b 0])[_]? = _
    rw [List.getElem?_append_right (by omega), show (TL.numL (t - b)).length + 2 - 1 - (TL.numL (t - b)).length = 1 by omega]
    rfl
  have e5 : numberIn (TL.numL (t - b)) 2000 = t - b := numberIn_num (by omega) (by omega)
  unfold ftStep
  rw [e2, e3, e4, e5, if_neg (by omega)]
  show (if _ then _ else _) = _
  have hc : l[b]? = some (l.getD b 0) := getD_of hbl
  rw [if_pos]
  · congr 1
    apply List.ext_getElem?
    intro j
    by_cases hj : j < b
    · rw [List.getElem?_append_left (by rw [List.length_take]; omega), List.getElem?_take_of_lt hj, List.getElem?_take_of_lt (by omega)]
    · rw [List.getElem?_append_right (by rw [List.length_take]; omega), List.length_take, Nat.min_eq_left (by omega), List.getElem?_replicate]
      by_cases hj2 : j < t
      · rw [if_pos (by omega), List.getElem?_take_of_lt hj2, heq j (by omega) hj2, hc]
      · rw [if_neg (by omega), List.getElem?_eq_none (by rw [List.length_take]; omega)]
  · refine ⟨rfl, hT.2 _ ?_, ?_, ?_⟩
    · exact List.mem_of_getElem? hc
    · intro h
      by_cases h0 : b = 0
      · subst h0
        cases h
      · rw [List.getLast?_eq_getElem?, List.length_take, Nat.min_eq_left (by omega), List.getElem?_take_of_lt (by omega)] at h
        exact hne (by omega) (hc.trans h.symm)
    · rw [List.length_take]
      omega
theorem rf_inv {l : List Nat} (hT : Trip l) : ∀ i, i ≤ l.length → RInv l i (rf l i).1 (rf l i).2
  | 0, _ => ⟨Nat.le_refl _, fun j h1 h2 _ => by
      have : j = 0 := Nat.le_zero.mp h2
      subst this
      rfl, rfl, fun h => absurd h (Nat.lt_irrefl 0), fun r hr => (by cases hr), fun h1 h2 => h2, Nat.le_refl _⟩
  | i + 1, hi => by
    have I := rf_inv hT i (by omega)
    show RInv l (i + 1) (rst l (rf l i) (i + 1)).1 (rst l (rf l i) (i + 1)).2
    generalize e : rf l i = st at I
    obtain ⟨rs, b⟩ := st
    have hb : b ≤ i := I.le
    unfold rst
    by_cases hc : i + 1 = l.length ∨ l[i + 1]? ≠ l[b]?
    · rw [if_pos hc]
      have hbl : b < l.length := by omega
      refine ⟨Nat.le_refl _, fun j h1 h2 _ => by rw [show j = i + 1 by omega], ?_, fun _ h2 => ?_, ?_, fun _ h => h, ?_⟩
      · rw [List.map_append, List.foldlM_append, I.rd]
        show (some (l.take b) >>= fun s => List.foldlM ftStep s [wordOf (l.getD b 0, b, i + 1)]) = _
        show (ftStep (l.take b) (wordOf (l.getD b 0, b, i + 1)) >>= fun s => pure s) = _
        rw [word_step hT (by omega) hi (fun j h1 h2 => I.eqs j h1 (by omega) (by omega)) (fun h0 => I.ne h0 hbl)]
        rfl
      · have h3 : l[i + 1]? ≠ l[b]? := hc.resolve_left (by intro h; omega)
        intro h4
        apply h3
        rw [h4]
        exact I.eqs i hb (Nat.le_refl _) (by omega)
      · intro r hr
        rcases List.mem_append.mp hr with h | h
        · obtain ⟨a1, a2, a3⟩ := I.cs r h
          exact ⟨a1, a2, by omega⟩
        · rw [List.mem_singleton.mp h]
          exact ⟨List.mem_of_getElem? (getD_of hbl), by show b < i + 1; omega, Nat.le_refl _⟩
      · have := I.few
        show (rs ++ [_]).length ≤ i + 1
        rw [List.length_append, List.length_singleton]
        have h5 : rs.length ≤ i := I.few
        omega
    · rw [if_neg hc]
      have h1 : i + 1 ≠ l.length := fun h => hc (.inl h)
      have h2 : l[i + 1]? = l[b]? := by
        apply Decidable.byContradiction
        intro h
        exact hc (.inr h)
      refine ⟨Nat.le_succ_of_le hb, fun j g1 g2 g3 => ?_, I.rd, I.ne, fun r hr => ?_, fun _ h => absurd h h1, Nat.le_succ_of_le I.few⟩
      · by_cases hj : j = i + 1
        · subst hj
          exact h2
        · exact I.eqs j g1 (by omega) g3
      · obtain ⟨a1, a2, a3⟩ := I.cs r hr
        exact ⟨a1, a2, by omega⟩
theorem word_free {r : Nat × Nat × Nat} (h : digB r.1 = true) : 32 ∉ wordOf r := by
  unfold wordOf
  intro hm
  rcases List.mem_append.mp hm with hm | hm
  · exact TL.numL_free (.inl (by decide)) hm
  · have := digB_iff.mp h
    simp only [List.mem_cons, List.not_mem_nil, or_false] at hm
    omega
theorem word_len {r : Nat × Nat × Nat} (h : r.2.2 ≤ 2000) : (wordOf r).length ≤ 6 := by
  unfold wordOf
  rw [List.length_append]
  have := TL.numL_len (n := r.2.2 - r.2.1) (k := 4) (by decide) (by omega)
  simp only [List.length_cons, List.length_nil]
  omega
theorem word_ne (r : Nat × Nat × Nat) : wordOf r ≠ [] := by
  unfold wordOf
  simp
theorem runs_ne {l : List Nat} (hT : Trip l) (h : l ≠ []) : runs l ≠ [] := by
  intro e
  have I := rf_inv hT l.length (Nat.le_refl _)
  have hp : 0 < l.length := List.length_pos_iff.mpr h
  have h1 := I.rd
  have h2 := I.full hp rfl
  unfold runs at e
  rw [e, h2] at h1
  have h3 : l.take l.length = [] := (Option.some.inj h1).symm
  rw [List.take_length] at h3
  exact h h3
theorem join_ne {ws : List (List Nat)} (h : ws ≠ []) (h2 : ∀ w ∈ ws, w ≠ []) : TL.joinL [32] ws ≠ [] := by
  match ws, h with
  | [p], _ => exact h2 p (List.mem_singleton.mpr rfl)
  | p :: q :: r, _ =>
    intro e
    have e2 : p ++ ([32] ++ TL.joinL [32] (q :: r)) = [] := e
    exact h2 p (List.mem_cons_self ..) (List.append_eq_nil_iff.mp e2).1
/-- a trip's short text is read back -/
theorem read_short {l : List Nat} (hT : Trip l) : fromTextL (shortL l) = some l := by
  by_cases h : l = []
  · subst h
    rfl
  · have hr := runs_ne hT h
    have I := rf_inv hT l.length (Nat.le_refl _)
    have hm : (runs l).map wordOf ≠ [] := fun e => hr (List.map_eq_nil_iff.mp e)
    have hs : shortL l ≠ [] := join_ne hm fun w hw => by
      obtain ⟨r, _, rfl⟩ := List.mem_map.mp hw
      exact word_ne r
    unfold fromTextL
    rw [if_neg hs]
    unfold splitL shortL
    rw [TL.spl_join hm fun p hp => ?_]
    · have h1 := I.rd
      rw [I.full (List.length_pos_iff.mpr h) rfl, List.take_length] at h1
      exact h1
    · obtain ⟨r, hr, rfl⟩ := List.mem_map.mp hp
      exact word_free (hT.2 _ (I.cs r hr).1)
theorem sum_le {α : Type} (f : α → Nat) (k : Nat) : ∀ l : List α, (∀ a ∈ l, f a ≤ k) → (l.map f).sum ≤ l.length * k
  | [], _ => by simp
  | a :: r, h => by
    have h1 := h a (List.mem_cons_self ..)
    have h2 := sum_le f k r fun b hb => h b (List.mem_cons_of_mem _ hb)
    rw [List.map_cons, List.sum_cons, List.length_cons, Nat.add_mul]
    omega
theorem join_len (s : List Nat) : ∀ ws : List (List Nat), (TL.joinL s ws).length ≤ (ws.map (·.length)).sum + ws.length * s.length
  | [] => by simp [TL.joinL]
  | [p] => by
    show p.length ≤ _
    simp
  | p :: q :: r => by
    have h := join_len s (q :: r)
    show (p ++ (s ++ TL.joinL s (q :: r))).length ≤ _
    rw [List.length_append, List.length_append]
    simp only [List.map_cons, List.sum_cons, List.length_cons] at h ⊢
    have e : (r.length + 1 + 1) * s.length = (r.length + 1) * s.length + s.length := by rw [Nat.add_mul (r.length + 1) 1, Nat.one_mul]
    omega
end CM

namespace CM
open PySem PySem.Spec PyProof.Rows L2
/-! ### a tuple taken apart -/
def gtO (o : Option HO) (n : Nat) (t : TGs) (σ : L2.St) (H : Hp) (R : L2.St → Hp → Prop) : Prop := match o with
  | some (.tup xs) => xs.length = n ∧ t xs σ H R
  | _ => False
def gTupF (n : Nat) (t : TGs) : TG := fun v σ H R => match v with
  | .ref a => gtO (H a) n t σ H R
  | _ => False
theorem w_gtup {n : Nat} {t : TGs} {a : Addr} {σ : L2.St} {H : Hp} {R : L2.St → Hp → Prop} : gTupF n t (.ref a) σ H R = gtO (H a) n t σ H R := rfl
theorem w_gtO {n : Nat} {t : TGs} {xs : List V} {σ : L2.St} {H : Hp} {R : L2.St → Hp → Prop} : gtO (some (.tup xs)) n t σ H R = (xs.length = n ∧ t xs σ H R) := rfl
theorem gtup_of {K : PySem.W.Frag} {n : Nat} {t : TGs} {v : V} {σ : L2.St} {H : Hp} {R : L2.St → Hp → Prop} (h : gTupF n t v σ H R) : gTup K n t v σ H R := by
  unfold gTupF at h
  split at h
  · unfold gtO at h
    split at h
    · rename_i h0
      exact ⟨_, _, rfl, SqT.of h0, h⟩
    · exact h.elim
  · exact h.elim
theorem pg_tupF {X : Cx} {es : List Expr} {k : Nat} {pos : Pos} {t : TGs} {n : Nat} (hc : X.calm = true) (h : PGs X es t) (hn : (assignEach es X.env).length = n := by rfl) (hst : (assignEach es X.env).findIdx? (·.1) = none := by rfl) :
    PG X (.Tuple es k pos) (gTupF n t) := ⟨fun pins s σ H v u Q I r q => (pg_tup hc h hn hst).run pins s σ H v u Q I r (gtup_of q)⟩
/-! ### lists out of comprehensions -/
theorem fm_bl {α : Type} (f : α → Bool) (l : List α) : l.filterMap (fun a => some (V.bl (f a))) = (l.map f).map V.bl := by
  rw [List.filterMap_eq_map', List.map_map]
  rfl
theorem fm_int {α : Type} (f : α → Int) (l : List α) : l.filterMap (fun a => some (V.int (f a))) = (l.map f).map V.int := by
  rw [List.filterMap_eq_map', List.map_map]
  rfl
theorem fm_str {α : Type} (f : α → List Nat) (l : List α) : l.filterMap (fun a => some (V.str (sL (f a)))) = (l.map f).map fun w => V.str (sL w) := by
  rw [List.filterMap_eq_map', List.map_map]
  rfl
theorem fm_v {α : Type} (f : α → V) (l : List α) : l.filterMap (fun a => some (f a)) = l.map f := by rw [List.filterMap_eq_map']
/-! ### a list of tuples -/
def TupAt {α : Type} (H : Hp) (f : α → List V) : List V → List α → Prop
  | [], [] => True
  | x :: xs, r :: rs => (∃ a, x = .ref a ∧ H a = some (.tup (f r))) ∧ TupAt H f xs rs
  | _, _ => False
section
variable {α : Type} {H H' : Hp} {f : α → List V}
theorem TupAt.mono (h : ∀ a xs, H a = some (.tup xs) → H' a = some (.tup xs)) : ∀ {xs : List V} {rs : List α}, TupAt H f xs rs → TupAt H' f xs rs
  | [], [], _ => trivial
  | x :: xs, r :: rs, ⟨⟨a, e, q⟩, t⟩ => ⟨⟨a, e, h a _ q⟩, TupAt.mono h t⟩
theorem TupAt.snoc {a : Addr} {r : α} (q : H a = some (.tup (f r))) : ∀ {xs : List V} {rs : List α}, TupAt H f xs rs → TupAt H f (xs ++ [.ref a]) (rs ++ [r])
  | [], [], _ => ⟨⟨a, rfl, q⟩, trivial⟩
  | x :: xs, s :: rs, ⟨e, t⟩ => ⟨e, TupAt.snoc q t⟩
theorem TupAt.len : ∀ {xs : List V} {rs : List α}, TupAt H f xs rs → xs.length = rs.length
  | [], [], _ => rfl
  | x :: xs, s :: rs, ⟨e, t⟩ => by rw [List.length_cons, List.length_cons, t.len]
theorem TupAt.get : ∀ {xs : List V} {rs : List α} {i : Nat} {x : V}, TupAt H f xs rs → xs[i]? = some x → ∃ a r, x = .ref a ∧ rs[i]? = some r ∧ H a = some (.tup (f r))
  | x :: xs, s :: rs, 0, y, ⟨⟨a, e, q⟩, t⟩, h => by
    have h : some x = some y := h
    cases h
    exact ⟨a, s, e, rfl, q⟩
  | x :: xs, s :: rs, i + 1, y, ⟨e, t⟩, h => TupAt.get (i := i) t h
  | [], [], i, y, _, h => by cases h
end
theorem same_tup {H H' : Hp} (S : Same H H') : ∀ a xs, H a = some (.tup xs) → H' a = some (.tup xs) := fun a xs h => S a _ h
/-! ### a comprehension over a list of tuples (any items that come with something known) -/
theorem walkQ {K : PySem.W.Frag} {a : Addr} {xs : List V} {α : Type} {rs : List α} {H0 : Hp} {f : α → List V} (T : TupAt H0 f xs rs) :
    Walk (Itl K a) (rs.zip xs).length (fun H => H a = some (.lst xs)) (fun i H x H' => H' = H ∧ ∃ b, (rs.zip xs)[i]? = some b ∧ x = b.2) := by
  have e : (rs.zip xs).length = xs.length := by rw [List.length_zip, T.len, Nat.min_self]
  rw [e]
  refine (walk_list (K := K) (a := a) (xs := xs)).mono (fun H h => SqL.of h) fun i H x H' hi _ y => ?_
  obtain ⟨h1, h2⟩ := y
  obtain ⟨b, r, h3, h4, h5⟩ := T.get h2
  exact ⟨h1, (r, x), by rw [List.getElem?_zip_eq_some]; exact ⟨h4, h2⟩, rfl⟩
theorem zip_fm {α β : Type} (g : α → β) : ∀ (rs : List α) (xs : List V), rs.length = xs.length → (rs.zip xs).filterMap (fun b => some (g b.1)) = rs.map g
  | [], _, _ => by simp
  | r :: rs, [], h => by simp at h
  | r :: rs, x :: xs, h => by
    rw [List.zip_cons_cons, List.filterMap_cons]
    show g r :: _ = _
    rw [zip_fm g rs xs (by simpa using h)]
    rfl
theorem TupAt.mem {α : Type} {H : Hp} {f : α → List V} {xs : List V} {rs : List α} (T : TupAt H f xs rs) {b : α × V} (h : b ∈ rs.zip xs) : b.1 ∈ rs ∧ ∃ a, b.2 = .ref a ∧ H a = some (.tup (f b.1)) := by
  obtain ⟨i, hi⟩ := List.mem_iff_getElem?.mp h
  rw [List.getElem?_zip_eq_some] at hi
  obtain ⟨a, r, h3, h4, h5⟩ := T.get hi.2
  rw [h4] at hi
  have e := Option.some.inj hi.1
  rw [← e]
  exact ⟨List.mem_of_getElem? h4, a, h3, h5⟩

theorem lg {i : Int} (h : i.natAbs < 2 ^ 64) : i.natAbs.log2 < 1920 := by
  by_cases h0 : i.natAbs = 0
  · rw [h0]
    decide
  · exact (Nat.log2_lt h0).mpr (Nat.lt_of_lt_of_le h (Nat.pow_le_pow_right (by decide) (by decide)))
/-! ### the bag of draws -/
def Bag (H : Hp) (b sp : Addr) : Prop := sp ≠ b ∧ ∃ (ns : List Int) (i big mix cnt : Int), H b = some (.lst [.ref sp, .int i, .int big, .int mix, .int cnt]) ∧ H sp = some (.lst (ns.map V.int)) ∧ 0 ≤ i ∧ 0 ≤ big
theorem Bag.kp {H H' : Hp} {b sp : Addr} (B : Bag H b sp) (h1 : H' b = H b) (h2 : H' sp = H sp) : Bag H' b sp := by
  obtain ⟨h0, ns, i, big, mix, cnt, a1, a2, a3⟩ := B
  exact ⟨h0, ns, i, big, mix, cnt, by rw [h1]; exact a1, by rw [h2]; exact a2, a3⟩
theorem Bag.same {H H' : Hp} {b sp : Addr} (B : Bag H b sp) (S : Same H H') : Bag H' b sp := by
  obtain ⟨h0, ns, i, big, mix, cnt, a1, a2, a3⟩ := B
  exact ⟨h0, ns, i, big, mix, cnt, S _ _ a1, S _ _ a2, a3⟩
theorem Bag.ne {H : Hp} {b sp l : Addr} (B : Bag H b sp) (h : H l = none) : l ≠ b ∧ l ≠ sp := by
  obtain ⟨h0, ns, i, big, mix, cnt, a1, a2, a3⟩ := B
  exact ⟨(ne_of_none a1 h).symm, (ne_of_none a2 h).symm⟩
theorem Bag.mut {H : Hp} {b sp l : Addr} {o : HO} (B : Bag H b sp) (h1 : l ≠ b) (h2 : l ≠ sp) : Bag (upd H l o) b sp := B.kp (upd_ne h1.symm) (upd_ne h2.symm)

/-! ### the end -/
def sp_law (K : PySem.W.Frag) : Sp := fun vs H Q _ => ∃ (a : Addr) (ns : List Int), vs = [.ref a] ∧ SqL K H a (ns.map V.int) ∧ ∀ H', Q (.bl true) H'
section
variable {K : PySem.W.Frag} {h : Heap} {mg : Str → Option Value}
theorem df_mk {x : Str} {st : Stmt} {ps : List Str} {f : Addr} {oc : Value} {od an : Option Addr} {osl : Array (Option Value)} {kV doc pm cdv ct : Value} (X : K.In h) (G : h.Ns mainGlobals mg) (a : PySem.W.nsIn K mainGlobals x = some (some (.ref f)))
    (l : K.lookup f = some ⟨oc, od, .func (PySem.W.fnOf x x (defArgs st) (defBody st) (defScope st) .none kV doc pm an cdv ct), osl⟩) (c : PySem.W.codeIn K cdv x = true) (k : PySem.W.keepIn K (.ref f) = true)
    (hb : ∀ (kV doc pm : Value) (an : Option Addr) (cdv ct : Value) (us : List Value), us.length = ps.length → bindArgs (PySem.W.fnOf x x (defArgs st) (defBody st) (defScope st) .none kV doc pm an cdv ct) ⟨us, []⟩ = pure (ps.zip us)) : Df K mg x st ps :=
  ⟨f, _, PySem.W.mg_of X G a, fun_mk l c k, (fun_mk (st := st) l c k).binds hb⟩
theorem const_mk {x : Str} {v : Value} {f : Tok → Value} (X : K.In h) (G : h.Ns mainGlobals mg) (a : PySem.W.nsIn K mainGlobals x = some (some v)) (e : ∃ t, v = f t) : ∃ t, mg x = some (f t) := by
  obtain ⟨t, rfl⟩ := e
  exact ⟨t, PySem.W.mg_of X G a⟩
/-- the law's own def -/
structure LawD (K : PySem.W.Frag) (mg : Str → Option Value) (st : Stmt) : Prop where
  df : Df K mg "law" st ["_law_script"]
  ex : ∃ f fd oc od osl, mg "law" = some (.ref f) ∧ K.lookup f = some ⟨oc, od, .func fd, osl⟩ ∧ ∀ (s : Shared) (u : Value), BindsTo s fd ⟨[u], []⟩ [("_law_script", u)]
abbrev DfOf (_ : K.In h) (mg : Str → Option Value) (x : Str) (st : Stmt) (ps : List Str) : Prop := Df K mg x st ps
abbrev LawOf (_ : K.In h) (mg : Str → Option Value) (st : Stmt) : Prop := LawD K mg st
theorem law_mk {st : Stmt} {f : Addr} {oc : Value} {od an : Option Addr} {osl : Array (Option Value)} {kV doc pm cdv ct : Value} (X : K.In h) (G : h.Ns mainGlobals mg) (a : PySem.W.nsIn K mainGlobals "law" = some (some (.ref f)))
    (l : K.lookup f = some ⟨oc, od, .func (PySem.W.fnOf "law" "law" (defArgs st) (defBody st) (defScope st) .none kV doc pm an cdv ct), osl⟩) (c : PySem.W.codeIn K cdv "law" = true) (k : PySem.W.keepIn K (.ref f) = true)
    (hb : ∀ (kV doc pm : Value) (an : Option Addr) (cdv ct : Value) (us : List Value), us.length = (["_law_script"] : List Str).length → bindArgs (PySem.W.fnOf "law" "law" (defArgs st) (defBody st) (defScope st) .none kV doc pm an cdv ct) ⟨us, []⟩ = pure ((["_law_script"] : List Str).zip us)) : LawD K mg st :=
  ⟨df_mk X G a l c k hb, f, _, oc, od, osl, PySem.W.mg_of X G a, l, fun s u => .of_eq (hb _ _ _ _ _ _ [u] rfl)⟩
end
theorem walkF {l : PySem.W.OpenLaw} {q : Program} {loose : List Str} {XP : (Str → Option Value) → Heap → Prop} {YP : World → Heap → Prop} {d : DefRec} {K : Params → PySem.W.Frag} (st : Stmt) (k : Nat) (hn : l.most = some 63) (hdf : d.params.defaults = []) (hr : Room k callerA) (hd : d.name = "law")
    (hY : ∀ (w : World) (h : Heap), YP w h → (K w.params).In h)
    (F : ∀ (w : World) (mg : Str → Option Value) (h : Heap), (K w.params).In h → h.Ns mainGlobals mg → LawD (K w.params) mg st ∧ ∀ base : Heap, (K w.params).In base → base.Ns mainGlobals mg → Fn l.prog w (K w.params) mg base "law" k ["_law_script"] (sp_law (K w.params))) :
    PySem.W.WalkO q loose XP YP l.row.toRowW d [] (fun f vs => PySem.call f vs) := by
  refine L2.walk_of (n := 63) (k := k) (x := "_law_script") (CX := fun _ => CX0) (sp := fun w => sp_law (K w.params)) hn (by decide) hdf hr hY ?_ (fun _ _ a ns hl _ hS => ⟨a, ns, rfl, hS, fun _ => rfl⟩) fun _ _ _ _ _ z => z
  intro w mg fa h X G hm
  obtain ⟨⟨_, f, fd, oc, od, osl, h1, h2, h3⟩, hF⟩ := F w mg h X G
  rw [hd, h1] at hm
  cases hm
  refine ⟨fd, h3, fun base B1 B2 => ?_⟩
  obtain ⟨f', fd', g1, g2, g3, g4, oc', od', osl', g5⟩ := (hF base B1 B2).ex
  rw [h1] at g1
  cases g1
  rw [h2] at g5
  cases g5
  exact g2
end CM

namespace CM
open PySem PySem.Spec PyProof.Rows L2
/-! ### equal data -/
def okD (n : Nat) (d : PyData) : Prop := d.canLay0 = true ∧ d.depth ≤ n
theorem okD.mono {n m : Nat} {d : PyData} (h : okD n d) (k : n ≤ m) : okD m d := ⟨h.1, Nat.le_trans h.2 k⟩
theorem okAll {n : Nat} : ∀ {ds : List PyData}, (∀ d ∈ ds, okD n d) → PyData.canLayAll0 ds = true ∧ PyData.depthAll ds ≤ n
  | [], _ => ⟨by simp [PyData.canLayAll0], by simp [PyData.depthAll]⟩
  | d :: ds, h => by
    have h1 := h d (List.mem_cons_self ..)
    have h2 := okAll (ds := ds) fun e he => h e (List.mem_cons_of_mem _ he)
    refine ⟨?_, ?_⟩
    · simp only [PyData.canLayAll0, h1.1, h2.1, Bool.and_self]
    · simp only [PyData.depthAll]
      exact Nat.max_le.mpr ⟨h1.2, h2.2⟩
theorem ok_int (n : Nat) (i : Int) : okD n (.int i) := ⟨by simp [PyData.canLay0], by simp [PyData.depth]⟩
theorem ok_bool (n : Nat) (i : Bool) : okD n (.bool i) := ⟨by simp [PyData.canLay0], by simp [PyData.depth]⟩
theorem ok_none (n : Nat) : okD n .none := ⟨by simp [PyData.canLay0], by simp [PyData.depth]⟩
theorem ok_list {n : Nat} {ds : List PyData} (h : ∀ d ∈ ds, okD n d) : okD (n + 1) (.list ds) := by
  have h2 := okAll h
  refine ⟨?_, ?_⟩
  · simp only [PyData.canLay0]
    exact h2.1
  · simp only [PyData.depth]
    omega
theorem ok_tup {n : Nat} {ds : List PyData} (h : ∀ d ∈ ds, okD n d) : okD (n + 1) (.tuple ds) := by
  have h2 := okAll h
  refine ⟨?_, ?_⟩
  · simp only [PyData.canLay0]
    exact h2.1
  · simp only [PyData.depth]
    omega
theorem okD.shaped {n : Nat} {d : PyData} (h : okD n d) (hn : n ≤ 64) : SeqAt.shaped d = true := by
  unfold SeqAt.shaped
  rw [h.1, decide_eq_true (Nat.le_trans h.2 hn)]
  rfl
def SD (K : PySem.W.Frag) (neg : Bool) (x y : V) (H : Hp) (Q : VK) (_ : Seal Q) : Prop := ∃ d e, Dp K H x d ∧ Dp K H y e ∧ SeqAt.shaped d = true ∧ SeqAt.shaped e = true ∧ Q (.bl (xor neg (PyData.eqv d e))) H
def rEqX (K : PySem.W.Frag) : R2
  | .ref p, y, H, Q => SD K false (.ref p) y H Q .mk
  | x, .ref q, H, Q => SD K false x (.ref q) H Q .mk
  | x, y, H, Q => rEqF x y H Q
def rNeX (K : PySem.W.Frag) : R2
  | .ref p, y, H, Q => SD K true (.ref p) y H Q .mk
  | x, .ref q, H, Q => SD K true x (.ref q) H Q .mk
  | x, y, H, Q => rNeF x y H Q
section
variable {X : Cx}
theorem op_eqX {K : PySem.W.Frag} (hu : X.A.units + 64 < cLine) (hK : X.K = K := by rfl) : OpR X (compareOp .Eq) (rEqX K) := hK ▸ opImp (L2.OpR.or op_eqF (op_eqD hu)) fun x y H Q h => by
  unfold rEqX at h
  split at h
  · obtain ⟨d, e, h1, h2, h3, h4, h5⟩ := h
    exact .inr ⟨d, e, h1, h2, h3, h4, by simpa using h5⟩
  · obtain ⟨d, e, h1, h2, h3, h4, h5⟩ := h
    exact .inr ⟨d, e, h1, h2, h3, h4, by simpa using h5⟩
  · exact .inl h
theorem op_neX {K : PySem.W.Frag} (hu : X.A.units + 64 < cLine) (hK : X.K = K := by rfl) : OpR X (compareOp .NotEq) (rNeX K) := hK ▸ opImp (L2.OpR.or op_neF (op_neD hu)) fun x y H Q h => by
  unfold rNeX at h
  split at h
  · obtain ⟨d, e, h1, h2, h3, h4, h5⟩ := h
    exact .inr ⟨d, e, h1, h2, h3, h4, by simpa using h5⟩
  · obtain ⟨d, e, h1, h2, h3, h4, h5⟩ := h
    exact .inr ⟨d, e, h1, h2, h3, h4, by simpa using h5⟩
  · exact .inl h
end
section
variable {K : PySem.W.Frag} {H : Hp} {Q : VK} {p q : Addr} {i j : Int} {a b : Str} {x y : V} {k m : Bool}
theorem x_eq1 : rEqX K (.ref p) y H Q = SD K false (.ref p) y H Q .mk := rfl
theorem x_eq2 : rEqX K (.int i) (.ref q) H Q = SD K false (.int i) (.ref q) H Q .mk := rfl
theorem x_eq3 : rEqX K .non (.ref q) H Q = SD K false .non (.ref q) H Q .mk := rfl
theorem x_eq4 : rEqX K (.int i) (.int j) H Q = rEqF (.int i) (.int j) H Q := rfl
theorem x_eq5 : rEqX K (.str a) (.str b) H Q = rEqF (.str a) (.str b) H Q := rfl
theorem x_eq6 : rEqX K (.bl k) (.bl m) H Q = rEqF (.bl k) (.bl m) H Q := rfl
theorem x_eq7 : rEqX K .non .non H Q = rEqF .non .non H Q := rfl
theorem x_eq8 : rEqX K .non (.int i) H Q = rEqF .non (.int i) H Q := rfl
theorem x_eq9 : rEqX K .non (.str a) H Q = rEqF .non (.str a) H Q := rfl
theorem x_eq10 : rEqX K (.int i) .non H Q = rEqF (.int i) .non H Q := rfl
theorem x_eq11 : rEqX K (.str a) .non H Q = rEqF (.str a) .non H Q := rfl
theorem x_eq12 : rEqX K (.int i) (.str a) H Q = rEqF (.int i) (.str a) H Q := rfl
theorem x_eq13 : rEqX K (.str a) (.int i) H Q = rEqF (.str a) (.int i) H Q := rfl
theorem x_ne1 : rNeX K (.ref p) y H Q = SD K true (.ref p) y H Q .mk := rfl
theorem x_ne2 : rNeX K (.int i) (.ref q) H Q = SD K true (.int i) (.ref q) H Q .mk := rfl
theorem x_ne3 : rNeX K .non (.ref q) H Q = SD K true .non (.ref q) H Q .mk := rfl
theorem x_ne4 : rNeX K (.int i) (.int j) H Q = rNeF (.int i) (.int j) H Q := rfl
theorem x_ne5 : rNeX K (.str a) (.str b) H Q = rNeF (.str a) (.str b) H Q := rfl
theorem x_ne6 : rNeX K (.bl k) (.bl m) H Q = rNeF (.bl k) (.bl m) H Q := rfl
theorem x_ne7 : rNeX K .non .non H Q = rNeF .non .non H Q := rfl
theorem x_ne8 : rNeX K .non (.int i) H Q = rNeF .non (.int i) H Q := rfl
theorem x_ne9 : rNeX K .non (.str a) H Q = rNeF .non (.str a) H Q := rfl
/-- two that hold the same data -/
theorem sd_same {neg : Bool} {d : PyData} {n : Nat} (h1 : Dp K H x d) (h2 : Dp K H y d) (ok : okD n d) (hn : n ≤ 64) (q : Q (.bl (!neg)) H) : SD K neg x y H Q .mk := by
  refine ⟨d, d, h1, h2, ok.shaped hn, ok.shaped hn, ?_⟩
  rw [SeqAt.eqv_refl d ok.1]
  cases neg <;> exact q
theorem dpAll_map {α : Type} {f : α → V} {g : α → PyData} : ∀ {l : List α}, (∀ a ∈ l, Dp K H (f a) (g a)) → DpAll K H (l.map f) (l.map g)
  | [], _ => .nil
  | a :: l, h => .cons (h a (List.mem_cons_self ..)) (dpAll_map fun b hb => h b (List.mem_cons_of_mem _ hb))
theorem dp_ints {ns : List Int} (h : H p = some (.lst (ns.map V.int))) : Dp K H (.ref p) (.list (ns.map .int)) := .lst (SqL.of h) (dpAll_map fun a _ => .int a)
theorem ok_ints (ns : List Int) : okD 1 (.list (ns.map .int)) := ok_list fun d hd => by
  obtain ⟨i, _, rfl⟩ := List.mem_map.mp hd
  exact ok_int 0 i
theorem dpAll_tup {α : Type} {f : α → List V} {g : α → List PyData} (hf : ∀ a, DpAll K H (f a) (g a)) : ∀ {xs : List V} {rs : List α}, TupAt H f xs rs → DpAll K H xs (rs.map fun r => .tuple (g r))
  | [], [], _ => .nil
  | x :: xs, r :: rs, ⟨⟨a, e, q⟩, t⟩ => by
    subst e
    exact .cons (.tup (SqT.of q) (hf r)) (dpAll_tup hf t)
end
/-! ### a comprehension that makes tuples -/
section
variable {σ : L2.St} {H : Hp} {Q : VK} {c : TT} {te : TE} {g : TG}
theorem lpc_tup {α β : Type} {J : It} {G : Hp → Prop} {items : List α} {emb : α → V} (w : Walk J items.length G (fun i H x H' => H' = H ∧ ∃ a, items[i]? = some a ∧ x = emb a)) {vs : List Nat} {D : Addr} {H1 : Hp} {σw : L2.St} (hw : σw = wipe σw vs) (hD : H1 D = none) (hn : items.length ≤ 16777216)
    (f : α → Option β) (tp : β → List V) (R : Hp → Prop) (hR0 : R H1) (hRD : ∀ H o, R H → R (upd H D o)) (hG : ∀ H, R H → G H)
    (hs : ∀ a H (N : VK) (M : Hp → Prop), a ∈ items → R H → (∃ acc, H D = some (.lst acc) ∧ (∀ r q H4, f a = some r → R H4 → Same H H4 → H4 q = some (.tup (tp r)) → N (.ref q) H4) ∧ (∀ H4, f a = none → R H4 → Same H H4 → M H4)) →
      g (emb a) σw H fun σ2 H2 => wipe σ2 vs = σw ∧ c σ2 H2 fun b H3 => if b = true then te σ2 H3 N else M H3)
    (hd : ∀ H xs, R H → H D = some (.lst xs) → TupAt H tp xs (items.filterMap f) → Q (.ref D) H) : LpC J g c te .mk .mk .mk vs σw D H1 Q .mk := by
  obtain ⟨σ0, h00⟩ : ∃ σ0, σw = wipe σ0 vs := ⟨σw, hw⟩
  clear hw
  subst h00
  refine lc_it w (fun i H => i ≤ items.length ∧ R H ∧ ∃ xs, H D = some (.lst xs) ∧ TupAt H tp xs ((items.take i).filterMap f)) ⟨Nat.zero_le _, hRD _ _ hR0, [], upd_same, trivial⟩ (fun i H hi p => hG H p.2.1) ?_ (fun H p => ?_)
  · rintro i x H H' hi ⟨_, p1, xs, p2, p3⟩ ⟨rfl, a, ha, rfl⟩
    refine hs a H' _ _ (List.mem_of_getElem? ha) p1 ⟨xs, p2, fun r q H4 e1 e2 e3 e4 => ⟨xs, e3 _ _ p2, ?_, by omega, hRD _ _ e2, xs ++ [.ref q], upd_same, ?_⟩, fun H4 e1 e2 e3 => ⟨by omega, e2, xs, e3 _ _ p2, ?_⟩⟩
    · have h1 := p3.len
      have h2 : ((items.take i).filterMap f).length ≤ i := Nat.le_trans (List.length_filterMap_le _ _) (by rw [List.length_take]; omega)
      show _ < 2 ^ 24
      omega
    · rw [take_fm f ha, e1]
      refine (TupAt.snoc e4 (p3.mono (same_tup e3))).mono fun b ys hb => ?_
      rw [upd_ne (ne_of hb (e3 _ _ p2) (by intro z; cases z))]
      exact hb
    · rw [take_fm f ha, e1]
      simp only [Option.toList_none, List.append_nil]
      exact p3.mono (same_tup e3)
  · obtain ⟨_, p1, xs, p2, p3⟩ := p
    rw [List.take_length] at p3
    exact hd H xs p1 p2 p3
end
/-! ### a star among the items -/
def starO (o : Option HO) (t : TA) (σ : L2.St) (H1 : Hp) (Qa : List V → Hp → Prop) : Prop := match o with
  | some (.lst xs) => t σ H1 fun ys H2 => Qa (xs ++ ys) H2
  | some (.tup xs) => t σ H1 fun ys H2 => Qa (xs ++ ys) H2
  | _ => False
def tStarF (te : TE) (t : TA) : TA := fun σ H Qa => te σ H fun x H1 => match x with
  | .ref p => starO (H1 p) t σ H1 Qa
  | _ => False
section
variable {X : Cx} {e : Expr} {es : List Expr} {te : TE} {t : TA} {p : Pos} {σ : L2.St} {H : Hp} {Qa : List V → Hp → Prop}
theorem pa_starF (he : PE X e te) (hr : PA X es t) (hs : starEach (.Starred e p :: es) X.env = (true, eval e X.env) :: starEach es X.env := by rfl) : PA X (.Starred e p :: es) (tStarF te t) := by
  refine ⟨fun pos pins s σ H Q I h => (StX.pa_star (pe_up he) hr hs).run pos pins s σ H Q I ⟨_, h, fun x H1 q => ?_⟩⟩
  split at q
  · unfold starO at q
    split at q
    · rename_i h0
      exact ⟨_, _, rfl, .inr (SqL.of h0), q⟩
    · rename_i h0
      exact ⟨_, _, rfl, .inl (SqT.of h0), q⟩
    · exact q.elim
  · exact q.elim
def starV (x : V) (t : TA) (σ : L2.St) (H1 : Hp) (Qa : List V → Hp → Prop) : Prop := match x with
  | .ref p => starO (H1 p) t σ H1 Qa
  | _ => False
theorem w_star : tStarF te t σ H Qa = te σ H fun x H1 => starV x t σ H1 Qa := rfl
theorem f_star {a : Addr} : starV (.ref a) t σ H Qa = starO (H a) t σ H Qa := rfl
theorem f_starO1 {xs : List V} : starO (some (.lst xs)) t σ H Qa = t σ H fun ys H2 => Qa (xs ++ ys) H2 := rfl
theorem f_starO2 {xs : List V} : starO (some (.tup xs)) t σ H Qa = t σ H fun ys H2 => Qa (xs ++ ys) H2 := rfl
end
end CM

namespace CM
open PySem PySem.Spec PyProof.Rows L2
/-! ### defs with defaults -/
structure DfD (K : PySem.W.Frag) (mg : Str → Option Value) (x : Str) (st : Stmt) (ps : List Str) (dvs : List V) : Prop where
  ex : ∃ f fd, mg x = some (.ref f) ∧ FunD K x x (defArgs st) (defBody st) (defScope st) dvs [] f fd ∧ Binds K fd ps [] ∧ ∃ ds, Vals dvs ds ∧ Binds K fd ps ds
structure FnD (P : Program) (w : World) (K : PySem.W.Frag) (mg : Str → Option Value) (base : Heap) (x : Str) (k : Nat) (ps : List Str) (dvs : List V) (sp : Sp) : Prop where
  fn : Fn P w K mg base x k ps sp
  ex : ∃ f fd, mg x = some (.ref f) ∧ FnOk P w K mg base CX0 k f fd ps sp ∧ PySem.W.keepIn K (.ref f) = true ∧ ∃ ds, Vals dvs ds ∧ Binds K fd ps ds
section
variable {P : Program} {w : World} {K : PySem.W.Frag} {mg : Str → Option Value} {base : Heap}
theorem DfD.ok {x : Str} {st : Stmt} {N ps : List Str} {dvs : List V} {k : Nat} {sp : Sp} (D : DfD K mg x st ps dvs) (S : FnScope N ps (defScope st)) (len : ∀ vs H Q E, sp vs H Q E → vs.length = ps.length)
    (hbody : ∀ (f : Addr) (cdv : Value) (A : Around) (outer : List Env) (s : Shared) (H : Hp) (vs : List V) (Q : VK) (E : XK), Room k (A.deeper (envOfC x (defScope st) s.heap.objs.size f cdv)) → sp vs H Q E →
      ∃ t, PSs (cxOf CX0 P w K mg base N x (defScope st) f cdv A outer s H E).nox (defBody st) t ∧ t { nx := fun _ H' => Q .non H', rt := Q } (start N vs) H) : FnD P w K mg base x (k + 1) ps dvs sp := by
  obtain ⟨f, fd, h1, F, b, b2⟩ := D.ex
  obtain ⟨oc, od, dV, kV, doc, pm, an, cdv, ct, osl, e1, lk, hcd, _⟩ := F.ex
  have G : FnOk P w K mg base CX0 (k + 1) f fd ps sp := F.ok S len fun cdv A outer s H vs Q E hr h => by
    obtain ⟨t, h2, q⟩ := hbody f cdv A outer s H vs Q E hr h
    exact ⟨t, h2.nox, q⟩
  exact ⟨⟨f, fd, h1, G, F.kp, b, oc, od, osl, lk⟩, f, fd, h1, G, F.kp, b2⟩
end
section
variable {X : Cx} {x : Str} {k : Nat} {ps : List Str} {dvs : List V} {sp : Sp} {e : Expr} {es : List Expr} {t : TA} {p pos : Pos}
theorem pe_fnD (F : FnD X.prog X.w X.K X.mg X.base x k ps dvs sp) (hr : Room k X.A) (hg : Gl X x) (ha : PA X (e :: es) t) (hdb : (x == ("__debug__" : Str)) = false := by decide)
    (he : starEach (e :: es) X.env = (false, eval e X.env) :: starEach es X.env := by rfl) (hpl : (backTo pos (starEach es X.env)).any (·.1) = false := by rfl) :
    PE X (.Call (.Name x p) (e :: es) [] pos) (tCall sp dvs E0 t) := by
  obtain ⟨f, fd, h1, G, h2, ds, v, b⟩ := F.ex
  exact pe_call G hr hg h1 h2 b v pass0 ha hdb he hpl
end
/-! ### a def that is a value -/
structure FnAt (P : Program) (w : World) (K : PySem.W.Frag) (mg : Str → Option Value) (base : Heap) (f : Addr) (k : Nat) (n : Nat) (dvs : List V) (sp : Sp) : Prop where
  ex : ∃ fd ps, FnOk P w K mg base CX0 k f fd ps sp ∧ PySem.W.keepIn K (.ref f) = true ∧ n + dvs.length = ps.length ∧ ∃ ds, Vals dvs ds ∧ Binds K fd ps ds
theorem FnAt.mono {P : Program} {w : World} {K : PySem.W.Frag} {mg : Str → Option Value} {base : Heap} {f : Addr} {k j n : Nat} {dvs : List V} {sp : Sp} (F : FnAt P w K mg base f k n dvs sp) (h : k ≤ j) : FnAt P w K mg base f j n dvs sp := by
  obtain ⟨fd, ps, a, b⟩ := F.ex
  exact ⟨fd, ps, a.mono h, b⟩
theorem Fn.at {P : Program} {w : World} {K : PySem.W.Frag} {mg : Str → Option Value} {base : Heap} {x : Str} {k : Nat} {ps : List Str} {sp : Sp} (F : Fn P w K mg base x k ps sp) : ∃ f, mg x = some (.ref f) ∧ FnAt P w K mg base f k ps.length [] sp := by
  obtain ⟨f, fd, h1, G, h2, b, _⟩ := F.ex
  exact ⟨f, h1, fd, ps, G, h2, rfl, [], .nil, b⟩
theorem FnD.at {P : Program} {w : World} {K : PySem.W.Frag} {mg : Str → Option Value} {base : Heap} {x : Str} {k : Nat} {ps : List Str} {dvs : List V} {sp : Sp} (F : FnD P w K mg base x k ps dvs sp) (n : Nat) (hn : n + dvs.length = ps.length) :
    ∃ f, mg x = some (.ref f) ∧ FnAt P w K mg base f k ps.length [] sp ∧ FnAt P w K mg base f k n dvs sp := by
  obtain ⟨f, fd, h1, G, h2, b, _⟩ := F.fn.ex
  obtain ⟨f', fd', g1, G', g2, b2⟩ := F.ex
  rw [h1] at g1
  cases g1
  exact ⟨f, h1, ⟨fd, ps, G, h2, rfl, [], .nil, b⟩, fd', ps, G', g2, hn, b2⟩
/-- a call of whatever def the value is -/
def KeptV (K : PySem.W.Frag) (v : V) : Prop := ∃ f, v = .ref f ∧ PySem.W.keepIn K (.ref f) = true
def VCall (P : Program) (w : World) (K : PySem.W.Frag) (mg : Str → Option Value) (base : Heap) (k : Nat) (v : V) (vs : List V) (H2 : Hp) (Q : VK) (_ : Seal Q) : Prop := ∃ f sp dvs, v = .ref f ∧ FnAt P w K mg base f k vs.length dvs sp ∧ sp (vs ++ dvs) H2 Q E0
def tCallV (P : Program) (w : World) (K : PySem.W.Frag) (mg : Str → Option Value) (base : Heap) (k : Nat) (tf : TE) (t : TA) : TE := fun σ H Q => tf σ H fun v H1 => KeptV K v ∧ t σ H1 fun vs H2 => VCall P w K mg base k v vs H2 Q .mk
theorem w_callV {P : Program} {w : World} {K : PySem.W.Frag} {mg : Str → Option Value} {base : Heap} {k : Nat} {tf : TE} {t : TA} {σ : L2.St} {H : Hp} {Q : VK} : tCallV P w K mg base k tf t σ H Q = tf σ H fun v H1 => KeptV K v ∧ t σ H1 fun vs H2 => VCall P w K mg base k v vs H2 Q .mk := rfl
theorem vcall {P : Program} {w : World} {K : PySem.W.Frag} {mg : Str → Option Value} {base : Heap} {k j n : Nat} {f : Addr} {vs dvs : List V} {H : Hp} {Q : VK} {sp : Sp} (F : FnAt P w K mg base f j n dvs sp) (h : j ≤ k) (hn : vs.length = n) (q : sp (vs ++ dvs) H Q E0) : VCall P w K mg base k (.ref f) vs H Q .mk := by
  subst hn
  exact ⟨f, sp, dvs, rfl, F.mono h, q⟩
theorem FnAt.kept {P : Program} {w : World} {K : PySem.W.Frag} {mg : Str → Option Value} {base : Heap} {f : Addr} {k n : Nat} {dvs : List V} {sp : Sp} (F : FnAt P w K mg base f k n dvs sp) : KeptV K (.ref f) := by
  obtain ⟨fd, ps, a, b, _⟩ := F.ex
  exact ⟨f, rfl, b⟩
section
variable {X : Cx} {fe e : Expr} {es : List Expr} {tf : TE} {t : TA} {pos : Pos} {k : Nat}
theorem pe_callV (hr : Room k X.A) (hf : PE X fe tf) (ha : PA X (e :: es) t)
    (hc : eval (.Call fe (e :: es) [] pos) X.env = (do callWith pos (← eval fe X.env) [] (backTo pos (starEach (e :: es) X.env)) (backToKw pos (keywordEach [] X.env))) := by rfl)
    (he : starEach (e :: es) X.env = (false, eval e X.env) :: starEach es X.env := by rfl) (hpl : (backTo pos (starEach es X.env)).any (·.1) = false := by rfl) :
    PE X (.Call fe (e :: es) [] pos) (tCallV X.prog X.w X.K X.mg X.base k tf t) := by
  refine ⟨fun pins s σ H Q I h => ?_⟩
  refine Call_ (thn (hf.run pins s σ H _ I h) fun u s1 ⟨v, H1, I1, r1, q0, q1⟩ => ?_) hc
  obtain ⟨f, rfl, hk⟩ := q0
  cases (show u = Value.ref f from r1)
  refine PySem.W.callWith_K (h₀ := X.base) I.ok.mod.kin hk (thn (ha.run pos pins s1 σ H1 _ I1 q1) fun us s2 ⟨vs, H2, I2, r, q⟩ => ⟨I2.kIn, ?_⟩) he hpl
  obtain ⟨f', sp, dvs, e1, F, q⟩ := q
  cases e1
  obtain ⟨fd, ps, G, _, hl, ds, hv, b⟩ := F.ex
  exact run_fn G hr b hv pass0 I2 r q
end
end CM

namespace CM
open PySem PySem.Spec PyProof.Rows L2
/-! ### sorted, of pairs of ints -/
def leP (a b : Int × Int) : Bool := !SrtO.lexB b a
theorem leP_iff {a b : Int × Int} : leP a b = true ↔ ¬ (b.1 < a.1 ∨ (b.1 = a.1 ∧ b.2 < a.2)) := by
  unfold leP
  rw [Bool.not_eq_true', SrtO.lexB_no]
def srt (l : List (Int × Int)) : List (Int × Int) := l.mergeSort leP
theorem srt_perm (l : List (Int × Int)) : (srt l).Perm l := List.mergeSort_perm l leP
theorem srt_sorted (l : List (Int × Int)) : (srt l).Pairwise fun a b => leP a b = true := by
  refine List.pairwise_mergeSort (fun a b c h1 h2 => ?_) (fun a b => ?_) l
  · rw [leP_iff] at *
    omega
  · rw [Bool.or_eq_true, leP_iff, leP_iff]
    omega
theorem srt_uniq {l m : List (Int × Int)} (hp : m.Perm l) (hs : m.Pairwise fun a b => leP a b = true) : m = srt l := by
  refine List.Perm.eq_of_pairwise (le := fun a b => leP a b = true) (fun a b _ _ h1 h2 => ?_) hs (srt_sorted l) (hp.trans (srt_perm l).symm)
  rw [leP_iff] at h1 h2
  exact Prod.ext (by omega) (by omega)
def tI (r : Int × Int) : List V := [.int r.1, .int r.2]
def kOf (H : Hp) (x : V) : Int × Int := match x with
  | .ref t => (match H t with | some (.tup [.int i, .int j]) => (i, j) | _ => (0, 0))
  | _ => (0, 0)
theorem tup_k {H : Hp} : ∀ {xs : List V} {rs : List (Int × Int)}, TupAt H tI xs rs → rs = xs.map (kOf H) ∧ ∀ x ∈ xs, ∃ t, x = .ref t ∧ H t = some (.tup [.int (kOf H x).1, .int (kOf H x).2])
  | [], [], _ => ⟨rfl, fun x hx => by cases hx⟩
  | x :: xs, r :: rs, ⟨⟨a, e, q⟩, t⟩ => by
    subst e
    obtain ⟨h1, h2⟩ := tup_k t
    have hk : kOf H (.ref a) = r := by
      show (match H a with | some (.tup [.int i, .int j]) => (i, j) | _ => (0, 0)) = r
      rw [q]
      rfl
    refine ⟨by rw [List.map_cons, hk, ← h1], fun x hx => ?_⟩
    rcases List.mem_cons.mp hx with rfl | hx
    · refine ⟨a, rfl, ?_⟩
      rw [hk]
      exact q
    · exact h2 x hx
theorem k_tup {H : Hp} : ∀ {xs : List V}, (∀ x ∈ xs, ∃ t, x = .ref t ∧ H t = some (.tup [.int (kOf H x).1, .int (kOf H x).2])) → TupAt H tI xs (xs.map (kOf H))
  | [], _ => trivial
  | x :: xs, h => by
    obtain ⟨t, e, q⟩ := h x (List.mem_cons_self ..)
    exact ⟨⟨t, e, q⟩, k_tup fun y hy => h y (List.mem_cons_of_mem _ hy)⟩
def SortP (a : Addr) (H : Hp) (Q : VK) (_ : Seal Q) : Prop := ∃ xs rs, H a = some (.lst xs) ∧ TupAt H tI xs rs ∧ ∀ ys p H', Same H H' → H p = none → H' p = some (.lst ys) → TupAt H' tI ys (srt rs) → Q (.ref p) H'
def rSortPF : RC
  | [.ref a], H, Q => SortP a H Q .mk
  | _, _, _ => False
theorem f_sortP {a : Addr} {H : Hp} {Q : VK} : rSortPF [.ref a] H Q = SortP a H Q .mk := rfl
section
variable {X : Cx}
theorem call_sortPF : CallR X (.builtin "sorted") rSortPF := callImp cr_sortedPO fun vs H Q h => by
  unfold rSortPF at h
  split at h
  · rename_i a
    obtain ⟨xs, rs, h1, h2, k⟩ := h
    obtain ⟨e1, e2⟩ := tup_k h2
    refine ⟨a, xs, kOf H, rfl, SqL.of h1, e2, fun ys p hs hp hn => ?_⟩
    have hS : Same H (upd H p (.lst ys)) := sm_new hn
    refine k ys p _ hS hn upd_same ?_
    have hy : TupAt H tI ys (ys.map (kOf H)) := k_tup fun y hy => e2 y (hp.perm.mem_iff.mp hy)
    have hsrt : ys.map (kOf H) = srt rs := by
      refine srt_uniq ?_ ?_
      · rw [e1]
        exact hp.perm.map _
      · refine List.pairwise_map.mpr ?_
        refine List.Pairwise.imp ?_ hs
        intro a b hab
        unfold leP
        rw [show SrtO.lexB (kOf H b) (kOf H a) = false from hab]
        rfl
    rw [hsrt] at hy
    exact hy.mono (same_tup hS)
  · exact h.elim
end
theorem cm_l {i j : Int} (h1 : -(2 ^ 64) < i) (h2 : i < 2 ^ 64) : CMul i j := .inl ⟨h1, h2⟩
theorem cm_r {i j : Int} (h1 : -(2 ^ 64) < j) (h2 : j < 2 ^ 64) : CMul i j := .inr ⟨h1, h2⟩
theorem cd_i {i j : Int} (h1 : 0 < j) (h2 : j < 1073741824) : CDiv i j := ⟨h1, h2⟩
/-! ### in, not in: a sign in a text, an int in a list of ints -/
def inO (neg : Bool) (i : Int) (o : Option HO) (H : Hp) (Q : VK) : Prop := match o with
  | some (.lst xs) => (match asInts xs with | some ns => Q (.bl (xor neg (decide (i ∈ ns)))) H | none => False)
  | _ => False
def rInX (neg : Bool) : R2
  | .str a, .str z, H, Q => ∃ c, a = ⟨#[c]⟩ ∧ Q (.bl (xor neg (decide (c ∈ z.cps.toList)))) H
  | .int i, .ref p, H, Q => inO neg i (H p) H Q
  | _, _, _, _ => False
theorem inV_ints (i : Int) : ∀ ns : List Int, inV (.int i) (ns.map V.int) = decide (i ∈ ns)
  | [] => rfl
  | n :: r => by
    have h := inV_ints i r
    unfold inV at h ⊢
    rw [List.map_cons, List.any_cons, h]
    show ((n == i) || decide (i ∈ r)) = _
    rw [Bool.eq_iff_iff]
    simp only [Bool.or_eq_true, beq_iff_eq, decide_eq_true_eq, List.mem_cons]
    exact ⟨fun a => a.imp Eq.symm id, fun a => a.imp Eq.symm id⟩
theorem flat_ints : ∀ ns : List Int, (ns.map V.int).all flatV = true
  | [] => rfl
  | n :: r => by
    rw [List.map_cons, List.all_cons, flat_ints r]
    rfl
section
variable {X : Cx}
theorem op_inX : OpR X (compareOp .In) (rInX false) := opImp (L2.OpR.or op_in_sign op_in_seq) fun x y H Q h => by
  unfold rInX at h
  split at h
  · obtain ⟨c, rfl, q⟩ := h
    exact .inl ⟨c, _, rfl, rfl, by simpa using q⟩
  · unfold inO at h
    split at h
    · rename_i h0
      split at h
      · rename_i ns h1
        have e := asInts_some h1
        subst e
        refine .inr ⟨_, _, rfl, .inl (SqL.of h0), rfl, flat_ints ns, ?_⟩
        rw [inV_ints]
        simpa using h
      · exact h.elim
    · exact h.elim
  · exact h.elim
theorem op_notInX : OpR X (compareOp .NotIn) (rInX true) := opImp (L2.OpR.or op_notIn_sign op_notIn_seq) fun x y H Q h => by
  unfold rInX at h
  split at h
  · obtain ⟨c, rfl, q⟩ := h
    exact .inl ⟨c, _, rfl, rfl, by simpa using q⟩
  · unfold inO at h
    split at h
    · rename_i h0
      split at h
      · rename_i ns h1
        have e := asInts_some h1
        subst e
        refine .inr ⟨_, _, rfl, .inl (SqL.of h0), rfl, flat_ints ns, ?_⟩
        rw [inV_ints]
        simpa using h
      · exact h.elim
    · exact h.elim
  · exact h.elim
end
section
variable {H : Hp} {Q : VK} {neg : Bool} {n : Nat} {z : Str} {i : Int} {p : Addr}
theorem f_inX1 : rInX neg (.str (sL [n])) (.str z) H Q = Q (.bl (xor neg (decide (n ∈ z.cps.toList)))) H := by
  unfold rInX
  simp
theorem f_inX2 : rInX neg (.int i) (.ref p) H Q = inO neg i (H p) H Q := rfl
theorem f_inO {ns : List Int} : inO neg i (some (.lst (ns.map V.int))) H Q = Q (.bl (xor neg (decide (i ∈ ns)))) H := by
  unfold inO
  simp only [asInts_map]
end
/-! ### the last place; list(range(..)); an empty list -/
theorem ix_m1 {n : Nat} (h : 0 < n) : ixN n (-1) = some (n - 1) := by
  unfold ixN
  rw [if_neg (by omega), if_pos (by omega)]
  congr 1
  omega
theorem rg_eq (a b : Int) : rgV a b = ((List.range (b - a).toNat).map fun i => a + (i : Nat)).map V.int := by
  unfold rgV
  rw [List.map_map]
  rfl
section
variable {σ : L2.St} {H : Hp} {Q : VK} {ta tb : TE}
theorem w_lstRg {te : L2.St → Hp → (Int → Int → Hp → Prop) → Prop} : tLstRg te σ H Q = te σ H fun a b H1 => RgOk a b ∧ New H1 (.lst (rgV a b)) Q .mk := rfl
theorem w_rg1 {R : Int → Int → Hp → Prop} : tRg1 ta σ H R = ta σ H fun x H1 => ∃ n, x = .int n ∧ R 0 n H1 := rfl
def rg2O (x y : V) (H2 : Hp) (R : Int → Int → Hp → Prop) : Prop := ∃ i j, x = .int i ∧ y = .int j ∧ R i j H2
theorem w_rg2 {R : Int → Int → Hp → Prop} : tRg2 ta tb σ H R = ta σ H fun x H1 => tb σ H1 fun y H2 => rg2O x y H2 R := rfl
theorem f_rg2 {i j : Int} {R : Int → Int → Hp → Prop} : rg2O (.int i) (.int j) H R = R i j H := by
  unfold rg2O
  simp
end
section
variable {K : PySem.W.Frag} {H : Hp} {Q : VK} {x y : V}
theorem sd_in {neg : Bool} {d e : PyData} {n : Nat} (h1 : Dp K H x d) (h2 : Dp K H y e) (ok : okD n d) (ok2 : okD n e) (hn : n ≤ 64) (b : Bool) (hb : PyData.eqv d e = b) (q : Q (.bl (xor neg b)) H) : SD K neg x y H Q .mk := by
  subst hb
  exact ⟨d, e, h1, h2, ok.shaped hn, ok2.shaped hn, q⟩
def pairI (r : Int × Int) : PyData := .tuple [.int r.1, .int r.2]
theorem dp_pairsI {p : Addr} {xs : List V} {rs : List (Int × Int)} (h : H p = some (.lst xs)) (t : TupAt H tI xs rs) : Dp K H (.ref p) (.list (rs.map pairI)) :=
  .lst (SqL.of h) (dpAll_tup (g := fun r : Int × Int => [.int r.1, .int r.2]) (fun _ => .cons (.int _) (.cons (.int _) .nil)) t)
theorem ok_pairsI (rs : List (Int × Int)) : okD 2 (.list (rs.map pairI)) := ok_list fun d hd => by
  obtain ⟨r, _, rfl⟩ := List.mem_map.mp hd
  refine ok_tup fun e he => ?_
  simp only [List.mem_cons, List.not_mem_nil, or_false] at he
  rcases he with rfl | rfl <;> exact ok_int 0 _
theorem eqv_nil (rs : List (Int × Int)) : PyData.eqv (.list (rs.map pairI)) (.list []) = rs.isEmpty := by
  cases rs with
  | nil => rfl
  | cons a r => rfl
/-- a list of pairs against [] -/
theorem sd_nil {neg : Bool} {p q : Addr} {xs : List V} {rs : List (Int × Int)} (h : H p = some (.lst xs)) (t : TupAt H tI xs rs) (h2 : H q = some (.lst [])) (k : Q (.bl (xor neg rs.isEmpty)) H) : SD K neg (.ref p) (.ref q) H Q .mk :=
  sd_in (dp_pairsI h t) (.lst (SqL.of h2) .nil) (ok_pairsI rs) (okD.mono (n := 1) (ok_list (fun d hd => by cases hd)) (by decide)) (by decide) _ (eqv_nil rs) k
end
/-! ### a list of tuples changed at its end -/
theorem TupAt.last {α : Type} {H : Hp} {f : α → List V} {xs : List V} {rs : List α} (t : TupAt H f xs rs) (h : rs ≠ []) : ∃ ys a ss r, xs = ys ++ [.ref a] ∧ rs = ss ++ [r] ∧ TupAt H f ys ss ∧ H a = some (.tup (f r)) := by
  induction xs generalizing rs with
  | nil =>
    cases rs with
    | nil => exact absurd rfl h
    | cons r rs => exact t.elim
  | cons x xs ih =>
    cases rs with
    | nil => exact t.elim
    | cons r rs =>
      obtain ⟨⟨a, rfl, q⟩, t⟩ := t
      by_cases h2 : rs = []
      · subst h2
        cases xs with
        | nil => exact ⟨[], a, [], r, rfl, rfl, trivial, q⟩
        | cons y ys => exact t.elim
      · obtain ⟨ys, b, ss, r2, rfl, rfl, t2, q2⟩ := ih t h2
        exact ⟨.ref a :: ys, b, r :: ss, r2, rfl, rfl, ⟨⟨a, rfl, q⟩, t2⟩, q2⟩
end CM

namespace CM
open PySem PySem.Spec PyProof.Rows L2
/-! ### the head of a def with defaults -/
section
variable {K : PySem.W.Frag} {h : Heap} {mg : Str → Option Value}
abbrev DfDOf (_ : K.In h) (mg : Str → Option Value) (x : Str) (st : Stmt) (ps : List Str) (dvs : List V) : Prop := DfD K mg x st ps dvs
theorem dfD_mk {x : Str} {st : Stmt} {ps : List Str} {dvs : List V} {f T : Addr} {oc : Value} {od an : Option Addr} {osl : Array (Option Value)} {kV doc pm cdv ct : Value} {o : Obj} {its : List Value} {m : Nat} (X : K.In h) (G : h.Ns mainGlobals mg) (a : PySem.W.nsIn K mainGlobals x = some (some (.ref f)))
    (l : K.lookup f = some ⟨oc, od, .func (PySem.W.fnOf x x (defArgs st) (defBody st) (defScope st) (.ref T) kV doc pm an cdv ct), osl⟩) (c : PySem.W.codeIn K cdv x = true) (k : PySem.W.keepIn K (.ref f) = true)
    (lT : K.lookup T = some o) (oT : o.data = .seq its.toArray m) (hv : Vals dvs its) (hd : dvs ≠ []) (hle : dvs.length ≤ ps.length)
    (hb : ∀ (T : Addr) (kV doc pm : Value) (an : Option Addr) (cdv ct : Value) (us its : List Value), us.length = ps.length - dvs.length → its.length = dvs.length →
      ∃ k, bindArgs (PySem.W.fnOf x x (defArgs st) (defBody st) (defScope st) (.ref T) kV doc pm an cdv ct) ⟨us, []⟩ = seqItems? (.ref T) >>= k ∧ k (some its.toArray) = pure (ps.zip (us ++ its.drop 0)))
    (hb2 : ∀ (T : Addr) (kV doc pm : Value) (an : Option Addr) (cdv ct : Value) (us its : List Value), us.length = ps.length → its.length = dvs.length →
      ∃ k, bindArgs (PySem.W.fnOf x x (defArgs st) (defBody st) (defScope st) (.ref T) kV doc pm an cdv ct) ⟨us, []⟩ = seqItems? (.ref T) >>= k ∧ k (some its.toArray) = pure (ps.zip (us ++ its.drop dvs.length))) : DfD K mg x st ps dvs := by
  have F : FunD K x x (defArgs st) (defBody st) (defScope st) dvs [] f (PySem.W.fnOf x x (defArgs st) (defBody st) (defScope st) (.ref T) kV doc pm an cdv ct) :=
    ⟨⟨oc, od, .ref T, kV, doc, pm, an, cdv, ct, osl, rfl, l, c, .inr ⟨hd, T, o, its, m, rfl, lT, oT, hv⟩, .inl rfl⟩, k⟩
  refine ⟨f, _, PySem.W.mg_of X G a, F, ?_, ?_⟩
  · obtain ⟨ds, v, b⟩ := F.binds1 ps.length dvs.length hd (by omega) hb2
    rw [List.drop_length] at v
    cases v
    exact b
  · exact F.binds1 (ps.length - dvs.length) 0 hd (by omega) hb
end
end CM

/-! the pure layer: values as trees; worlds -/
namespace CM
open PySem PySem.Spec PyProof.Rows L2
/-- a lambda's words -/
structure LamRec where
  qual : Str
  params : Arguments
  body : Expr
  scope : Scope
/-- captured cells, their names, what they hold -/
structure Cap where
  cl : List (Str × Addr)
  fr : List Str
  ws : List (Option V)
/-- the object at f is the lambda L over the cells cl -/
def LamO (f : Addr) (L : LamRec) (cl : List (Str × Addr)) (c : Addr) : HO := .ext fun h => ∃ (od : Option Addr) (sl : Array (Option Value)) (pm ctv : Value), h.get? f = some (⟨.type "function", od, .func (PySem.W.kla_fn "<lambda>" L.qual L.params L.body L.scope cl pm (.ref c) ctv), sl⟩ : Obj)
inductive D where
  | non | bl (b : Bool) | int (i : Int) | str (l : List Nat) | ty (n : String) | fn (x : Str) | ref (a : Addr)
  | lst (ds : List D) | tup (ds : List D) | dK (kvs : List (Key × D)) | dT (kvs : List (List Key × D)) | obj (C : Str) (fs : List (Str × D)) | exc (a dd : Addr) (c : Str) (g : D) | scr (ns : List Int)
  | lam (L : LamRec) (f : Addr) (cl : List (Str × Addr)) | clo (L : LamRec) (f : Addr) (w : Cap) (ds : List D) | tbl (q : Str)
instance : Inhabited D := ⟨.non⟩
/-- the written tuples -/
def WrT0 (K : PySem.W.Frag) (a : Addr) (vs : List V) : Prop := ∃ (o : Obj) (its : Array Value) (n : Nat), K.lookup a = some o ∧ o.cls = .type "tuple" ∧ o.data = .seq its n ∧ its.size ≤ sizeLine ∧ Vals vs its.toList
/-- .. and no row of whole numbers: such a tuple is always one of the heap (it may be a key) -/
def WrT (K : PySem.W.Frag) (a : Addr) (vs : List V) : Prop := WrT0 K a vs ∧ (vs = [] ∨ ∃ v ∈ vs, (∀ i : Int, v ≠ .int i) ∧ ∀ T : String, v ≠ .ty T)
def WrL (K : PySem.W.Frag) (a : Addr) (vs : List V) : Prop := ∃ (o : Obj) (its : Array Value) (n : Nat), K.lookup a = some o ∧ o.cls = .type "list" ∧ o.dict = none ∧ o.data = .seq its n ∧ its.size ≤ sizeLine ∧ Vals vs its.toList
mutual
inductive Rep (K : PySem.W.Frag) (mg : Str → Option Value) (Z : Addr → Prop) (H : Hp) : V → D → Prop
  | non : Rep K mg Z H .non .non
  | bl (b : Bool) : Rep K mg Z H (.bl b) (.bl b)
  | int (i : Int) : Rep K mg Z H (.int i) (.int i)
  | str (l : List Nat) : Rep K mg Z H (.str (sL l)) (.str l)
  | ty (n : String) : Rep K mg Z H (.ty n) (.ty n)
  | fn {x : Str} {f : Addr} : mg x = some (.ref f) → PySem.W.keepIn K (.ref f) = true → Rep K mg Z H (.ref f) (.fn x)
  | ref (a : Addr) : Rep K mg Z H (.ref a) (.ref a)
  | lst {a : Addr} {vs : List V} {ds : List D} : Z a → H a = some (.lst vs) → Reps K mg Z H vs ds → Rep K mg Z H (.ref a) (.lst ds)
  | tup {a : Addr} {vs : List V} {ds : List D} : H a = some (.tup vs) → Reps K mg Z H vs ds → Rep K mg Z H (.ref a) (.tup ds)
  | tupK {a : Addr} {vs : List V} {ds : List D} : WrT K a vs → Reps K mg Z H vs ds → Rep K mg Z H (.ref a) (.tup ds)
  | dK {a : Addr} {kvs : List (Key × V)} {ds : List (Key × D)} : Z a → Rd H a (.dK kvs) → kvs.map (·.1) = ds.map (·.1) → Reps K mg Z H (kvs.map (·.2)) (ds.map (·.2)) → Rep K mg Z H (.ref a) (.dK ds)
  | dT {a : Addr} {kvs : List (List Key × V)} {ds : List (List Key × D)} : Z a → Rd H a (.dT kvs) → kvs.map (·.1) = ds.map (·.1) → Reps K mg Z H (kvs.map (·.2)) (ds.map (·.2)) → Rep K mg Z H (.ref a) (.dT ds)
  | obj {a Ca dx : Addr} {C : Str} {fvs : List (Str × V)} {fs : List (Str × D)} : Z a → mg C = some (.ref Ca) → H a = some (.ins Ca dx fvs) → fvs.map (·.1) = fs.map (·.1) → Reps K mg Z H (fvs.map (·.2)) (fs.map (·.2)) → Rep K mg Z H (.ref a) (.obj C fs)
  | exc {a dd : Addr} {c : Str} {g : D} {fs : List (Str × V)} {v : V} : H dd = some (.xd fs) → fs.lookup ("given" : Str) = some v → Rep K mg Z H v g → Rep K mg Z H (.ref a) (.exc a dd c g)
  | scr {a : Addr} {ns : List Int} : (∃ o, H a = some (.frz o (.lst (ns.map V.int)))) ∨ WrL K a (ns.map V.int) → Rep K mg Z H (.ref a) (.scr ns)
  | lam {f c : Addr} {L : LamRec} {cl : List (Str × Addr)} : H f = some (LamO f L cl c) → H c = some (LamX.CodeO c L.qual) → Rep K mg Z H (.ref f) (.lam L f cl)
  | clo {f c : Addr} {L : LamRec} {w : Cap} {vs : List V} {ds : List D} : H f = some (LamO f L w.cl c) → H c = some (LamX.CodeO c L.qual) → w.ws = vs.map some → Reps K mg Z H vs ds → Rep K mg Z H (.ref f) (.clo L f w ds)
  | tbl {a : Addr} {q : Str} : Z a → LamX.TabS H a q → Rep K mg Z H (.ref a) (.tbl q)
inductive Reps (K : PySem.W.Frag) (mg : Str → Option Value) (Z : Addr → Prop) (H : Hp) : List V → List D → Prop
  | nil : Reps K mg Z H [] []
  | cons {v : V} {vs : List V} {d : D} {ds : List D} : Rep K mg Z H v d → Reps K mg Z H vs ds → Reps K mg Z H (v :: vs) (d :: ds)
end
section
variable {K : PySem.W.Frag} {mg : Str → Option Value} {Z Z' : Addr → Prop} {H H' : Hp}
/-- what frozen things lean on stays -/
structure Ke (Z : Addr → Prop) (H : Hp) (Z' : Addr → Prop) (H' : Hp) : Prop where
  sub : ∀ a, Z a → Z' a
  lst : ∀ a vs, Z a → H a = some (.lst vs) → H' a = some (.lst vs)
  dct : ∀ a u, Z a → Rd H a u → (∃ k, u = .dK k) ∨ (∃ k, u = .dT k) → Rd H' a u
  ins : ∀ a C dx fs, Z a → H a = some (.ins C dx fs) → H' a = some (.ins C dx fs)
  tup : ∀ a vs, H a = some (.tup vs) → H' a = some (.tup vs)
  xd : ∀ a fs, H a = some (.xd fs) → H' a = some (.xd fs)
  frl : ∀ a o vs, H a = some (.frz o (.lst vs)) → H' a = some (.frz o (.lst vs))
  ext : ∀ a φ, H a = some (.ext φ) → H' a = some (.ext φ)
  tbl : ∀ a ps, Z a → H a = some (.tbl ps) → H' a = some (.tbl ps)
theorem Ke.tab (k : Ke Z H Z' H') {a : Addr} {q : Str} (t : LamX.TabS H a q) (h : ∀ ps, H a = some (.tbl ps) → H' a = some (.tbl ps)) : LamX.TabS H' a q := by
  obtain ⟨ps, h1, h2, h3⟩ := t
  refine ⟨ps, h ps h1, h2, fun pos cv hc => ?_⟩
  obtain ⟨c, e1, e2⟩ := h3 pos cv hc
  exact ⟨c, e1, k.ext _ _ e2⟩
mutual
theorem Rep.ke (k : Ke Z H Z' H') : ∀ {v : V} {d : D}, Rep K mg Z H v d → Rep K mg Z' H' v d
  | _, _, .non => .non
  | _, _, .bl b => .bl b
  | _, _, .int i => .int i
  | _, _, .str l => .str l
  | _, _, .ty n => .ty n
  | _, _, .fn h h2 => .fn h h2
  | _, _, .ref a => .ref a
  | _, _, .lst z h r => .lst (k.sub _ z) (k.lst _ _ z h) (Reps.ke k r)
  | _, _, .tup h r => .tup (k.tup _ _ h) (Reps.ke k r)
  | _, _, .tupK h r => .tupK h (Reps.ke k r)
  | _, _, .dK z h e r => .dK (k.sub _ z) (k.dct _ _ z h (.inl ⟨_, rfl⟩)) e (Reps.ke k r)
  | _, _, .dT z h e r => .dT (k.sub _ z) (k.dct _ _ z h (.inr ⟨_, rfl⟩)) e (Reps.ke k r)
  | _, _, .obj z m h e r => .obj (k.sub _ z) m (k.ins _ _ _ _ z h) e (Reps.ke k r)
  | _, _, .exc h e r => .exc (k.xd _ _ h) e (Rep.ke k r)
  | _, _, .scr h => .scr (h.imp (fun ⟨o, h⟩ => ⟨o, k.frl _ _ _ h⟩) id)
  | _, _, .lam h1 h2 => .lam (k.ext _ _ h1) (k.ext _ _ h2)
  | _, _, .clo h1 h2 e r => .clo (k.ext _ _ h1) (k.ext _ _ h2) e (Reps.ke k r)
  | _, _, .tbl z h => .tbl (k.sub _ z) (k.tab h fun ps e => k.tbl _ ps z e)
theorem Reps.ke (k : Ke Z H Z' H') : ∀ {vs : List V} {ds : List D}, Reps K mg Z H vs ds → Reps K mg Z' H' vs ds
  | _, _, .nil => .nil
  | _, _, .cons r t => .cons (Rep.ke k r) (Reps.ke k t)
end
theorem Reps.len : ∀ {vs : List V} {ds : List D}, Reps K mg Z H vs ds → vs.length = ds.length
  | _, _, .nil => rfl
  | _, _, .cons _ t => by rw [List.length_cons, List.length_cons, t.len]
theorem Reps.get : ∀ {vs : List V} {ds : List D} {i : Nat} {d : D}, Reps K mg Z H vs ds → ds[i]? = some d → ∃ v, vs[i]? = some v ∧ Rep K mg Z H v d
  | _, _, 0, _, .cons r _, h => by
    cases h
    exact ⟨_, rfl, r⟩
  | _, _, i + 1, _, .cons _ t, h => Reps.get (i := i) t h
theorem Reps.getV : ∀ {vs : List V} {ds : List D} {i : Nat} {v : V}, Reps K mg Z H vs ds → vs[i]? = some v → ∃ d, ds[i]? = some d ∧ Rep K mg Z H v d
  | _, _, 0, _, .cons r _, h => by
    cases h
    exact ⟨_, rfl, r⟩
  | _, _, i + 1, _, .cons _ t, h => Reps.getV (i := i) t h
theorem Reps.app : ∀ {vs ws : List V} {ds es : List D}, Reps K mg Z H vs ds → Reps K mg Z H ws es → Reps K mg Z H (vs ++ ws) (ds ++ es)
  | _, _, _, _, .nil, s => s
  | _, _, _, _, .cons r t, s => .cons r (t.app s)
theorem Reps.take : ∀ {vs : List V} {ds : List D} (n : Nat), Reps K mg Z H vs ds → Reps K mg Z H (vs.take n) (ds.take n)
  | _, _, 0, _ => .nil
  | _, _, _ + 1, .nil => .nil
  | _, _, n + 1, .cons r t => .cons r (t.take n)
theorem Reps.drop : ∀ {vs : List V} {ds : List D} (n : Nat), Reps K mg Z H vs ds → Reps K mg Z H (vs.drop n) (ds.drop n)
  | _, _, 0, r => r
  | _, _, _ + 1, .nil => .nil
  | _, _, n + 1, .cons _ t => t.drop n
theorem Reps.set {v : V} {d : D} (r : Rep K mg Z H v d) : ∀ {vs : List V} {ds : List D} (i : Nat), Reps K mg Z H vs ds → Reps K mg Z H (vs.set i v) (ds.set i d)
  | _, _, _, .nil => .nil
  | _, _, 0, .cons _ t => .cons r t
  | _, _, i + 1, .cons q t => .cons q (t.set r i)
theorem Reps.erase : ∀ {vs : List V} {ds : List D} (i : Nat), Reps K mg Z H vs ds → Reps K mg Z H (vs.eraseIdx i) (ds.eraseIdx i)
  | _, _, _, .nil => .nil
  | _, _, 0, .cons _ t => t
  | _, _, i + 1, .cons q t => .cons q (t.erase i)
theorem Reps.one {v : V} {d : D} (r : Rep K mg Z H v d) : Reps K mg Z H [v] [d] := .cons r .nil
end
/-- an object that may be written, by what it holds -/
def CellAt (K : PySem.W.Frag) (mg : Str → Option Value) (Z : Addr → Prop) (H : Hp) (a : Addr) : D → Prop
  | .lst ds => ∃ vs, H a = some (.lst vs) ∧ Reps K mg Z H vs ds
  | .dK ds => ∃ kvs, H a = some (.dK kvs) ∧ kvs.map (·.1) = ds.map (·.1) ∧ Reps K mg Z H (kvs.map (·.2)) (ds.map (·.2))
  | .dT ds => ∃ kvs, H a = some (.dT kvs) ∧ kvs.map (·.1) = ds.map (·.1) ∧ Reps K mg Z H (kvs.map (·.2)) (ds.map (·.2))
  | .obj C fs => ∃ Ca dx fvs, mg C = some (.ref Ca) ∧ H a = some (.ins Ca dx fvs) ∧ fvs.map (·.1) = fs.map (·.1) ∧ Reps K mg Z H (fvs.map (·.2)) (fs.map (·.2))
  | .tbl q => LamX.TabS H a q
  | _ => False
section
variable {K : PySem.W.Frag} {mg : Str → Option Value} {Z Z' : Addr → Prop} {H H' : Hp}
theorem CellAt.some {a : Addr} {d : D} (h : CellAt K mg Z H a d) : ∃ o, H a = some o ∧ (∀ vs, o ≠ .tup vs) ∧ ∀ ob u, o ≠ .frz ob u := by
  cases d <;> simp only [CellAt] at h
  · obtain ⟨_, h, _⟩ := h; exact ⟨_, h, fun _ z => (by cases z), fun _ _ z => (by cases z)⟩
  · obtain ⟨_, h, _⟩ := h; exact ⟨_, h, fun _ z => (by cases z), fun _ _ z => (by cases z)⟩
  · obtain ⟨_, h, _⟩ := h; exact ⟨_, h, fun _ z => (by cases z), fun _ _ z => (by cases z)⟩
  · obtain ⟨_, _, _, _, h, _⟩ := h; exact ⟨_, h, fun _ z => (by cases z), fun _ _ z => (by cases z)⟩
  · obtain ⟨_, h, _⟩ := h; exact ⟨_, h, fun _ z => (by cases z), fun _ _ z => (by cases z)⟩
theorem CellAt.nxd {a : Addr} {d : D} {fs : List (Str × V)} (h : CellAt K mg Z H a d) : H a ≠ Option.some (.xd fs) := by
  cases d <;> simp only [CellAt] at h
  · obtain ⟨_, h, _⟩ := h; rw [h]; exact fun z => by cases z
  · obtain ⟨_, h, _⟩ := h; rw [h]; exact fun z => by cases z
  · obtain ⟨_, h, _⟩ := h; rw [h]; exact fun z => by cases z
  · obtain ⟨_, _, _, _, h, _⟩ := h; rw [h]; exact fun z => by cases z
  · obtain ⟨_, h, _⟩ := h; rw [h]; exact fun z => by cases z
theorem CellAt.next {a : Addr} {d : D} {φ : Heap → Prop} (h : CellAt K mg Z H a d) : H a ≠ Option.some (.ext φ) := by
  cases d <;> simp only [CellAt] at h
  · obtain ⟨_, h, _⟩ := h; rw [h]; exact fun z => by cases z
  · obtain ⟨_, h, _⟩ := h; rw [h]; exact fun z => by cases z
  · obtain ⟨_, h, _⟩ := h; rw [h]; exact fun z => by cases z
  · obtain ⟨_, _, _, _, h, _⟩ := h; rw [h]; exact fun z => by cases z
  · obtain ⟨_, h, _⟩ := h; rw [h]; exact fun z => by cases z
theorem CellAt.nfr {a : Addr} {d : D} {ob : Obj} {u : HO} (h : CellAt K mg Z H a d) : H a ≠ Option.some (.frz ob u) := by
  obtain ⟨o, ho, _, nf⟩ := h.some
  rw [ho]
  exact fun z => nf ob u (Option.some.inj z)
theorem CellAt.ke {a : Addr} {d : D} (k : Ke Z H Z' H') (e : H' a = H a) (h : CellAt K mg Z H a d) : CellAt K mg Z' H' a d := by
  cases d <;> simp only [CellAt] at h ⊢
  · rw [e]; obtain ⟨_, h, r⟩ := h; exact ⟨_, h, r.ke k⟩
  · rw [e]; obtain ⟨_, h, q, r⟩ := h; exact ⟨_, h, q, r.ke k⟩
  · rw [e]; obtain ⟨_, h, q, r⟩ := h; exact ⟨_, h, q, r.ke k⟩
  · rw [e]; obtain ⟨_, _, _, m, h, q, r⟩ := h; exact ⟨_, _, _, m, h, q, r.ke k⟩
  · exact k.tab h fun ps q => e.trans q
/-- frozen -/
theorem CellAt.rep {a : Addr} {d : D} (z : Z a) (h : CellAt K mg Z H a d) : Rep K mg Z H (.ref a) d := by
  cases d <;> simp only [CellAt] at h
  · obtain ⟨_, h, r⟩ := h; exact .lst z h r
  · obtain ⟨_, h, q, r⟩ := h; exact .dK z (.inl h) q r
  · obtain ⟨_, h, q, r⟩ := h; exact .dT z (.inl h) q r
  · obtain ⟨_, _, _, m, h, q, r⟩ := h; exact .obj z m h q r
  · exact .tbl z h
end
abbrev PHp := Addr → Option D
structure Wd where
  Z : Addr → Prop
  M : PHp
  H : Hp
structure Wd.Ok (K : PySem.W.Frag) (mg : Str → Option Value) (w : Wd) : Prop where
  cells : ∀ a d, w.M a = some d → ¬ w.Z a ∧ CellAt K mg w.Z w.H a d
  zin : ∀ a, w.Z a → w.H a ≠ none
  ztup : ∀ a vs, w.H a = some (.tup vs) → w.M a = none
/-- w' comes behind w: what w does not give away is as it was -/
structure Le (w w' : Wd) : Prop where
  sub : ∀ a, w.Z a → w'.Z a
  frame : ∀ a o, w.H a = some o → w.M a = none → w'.H a = some o
  there : ∀ a, w.H a ≠ none → w'.H a ≠ none
  newc : ∀ a d, w'.M a = some d → w.M a ≠ none ∨ w.H a = none
  newz : ∀ a, w'.Z a → w.Z a ∨ w.H a = none
section
variable {K : PySem.W.Frag} {mg : Str → Option Value} {w w1 w2 w3 : Wd}
theorem Wd.Ok.zm (o : w.Ok K mg) {a : Addr} (z : w.Z a) : w.M a = none := by
  cases h : w.M a with
  | none => rfl
  | some d => exact absurd z (o.cells a d h).1
theorem Le.refl (w : Wd) : Le w w := ⟨fun _ h => h, fun _ _ h _ => h, fun _ h => h, fun a d h => .inl (by rw [h]; exact fun z => by cases z), fun _ h => .inl h⟩
theorem Le.trans (a : Le w w1) (b : Le w1 w2) : Le w w2 where
  sub := fun x h => b.sub x (a.sub x h)
  frame := fun x o h m => by
    refine b.frame x o (a.frame x o h m) ?_
    cases e : w1.M x with
    | none => rfl
    | some d =>
      rcases a.newc x d e with q | q
      · exact absurd m q
      · rw [h] at q; cases q
  there := fun x h => b.there x (a.there x h)
  newc := fun x d h => by
    rcases b.newc x d h with q | q
    · cases e : w1.M x with
      | none => exact absurd e q
      | some d1 => exact a.newc x d1 e
    · right
      cases e : w.H x with
      | none => rfl
      | some o => exact absurd q (a.there x (by rw [e]; exact fun z => by cases z))
  newz := fun x h => by
    rcases b.newz x h with q | q
    · exact a.newz x q
    · right
      cases e : w.H x with
      | none => rfl
      | some o => exact absurd q (a.there x (by rw [e]; exact fun z => by cases z))
theorem Le.ke (o : w.Ok K mg) (h : Le w w1) : Ke w.Z w.H w1.Z w1.H where
  sub := h.sub
  lst := fun a vs z e => h.frame a _ e (o.zm z)
  dct := fun a u z e _ => by
    rcases e with e | ⟨ob, e⟩
    · exact .inl (h.frame a _ e (o.zm z))
    · exact .inr ⟨ob, h.frame a _ e (o.zm z)⟩
  ins := fun a C dx fs z e => h.frame a _ e (o.zm z)
  tup := fun a vs e => h.frame a _ e (o.ztup a vs e)
  xd := fun a fs e => h.frame a _ e (by
    cases q : w.M a with
    | none => rfl
    | some d => exact absurd e (o.cells a d q).2.nxd)
  frl := fun a ob vs e => h.frame a _ e (by
    cases q : w.M a with
    | none => rfl
    | some d =>
      obtain ⟨u, hu, _, nf⟩ := (o.cells a d q).2.some
      exact absurd (Option.some.inj (hu.symm.trans e)) (nf _ _))
  ext := fun a φ e => h.frame a _ e (by
    cases q : w.M a with
    | none => rfl
    | some d => exact absurd e (o.cells a d q).2.next)
  tbl := fun a ps z e => h.frame a _ e (o.zm z)
theorem Ke.refl (Z : Addr → Prop) (H : Hp) : Ke Z H Z H := ⟨fun _ h => h, fun _ _ _ h => h, fun _ _ _ h _ => h, fun _ _ _ _ _ h => h, fun _ _ h => h, fun _ _ h => h, fun _ _ _ h => h, fun _ _ h => h, fun _ _ _ h => h⟩
theorem Ke.trans {Z1 Z2 Z3 : Addr → Prop} {H1 H2 H3 : Hp} (a : Ke Z1 H1 Z2 H2) (b : Ke Z2 H2 Z3 H3) : Ke Z1 H1 Z3 H3 :=
  ⟨fun x h => b.sub x (a.sub x h), fun x vs z h => b.lst x vs (a.sub x z) (a.lst x vs z h), fun x u z h i => b.dct x u (a.sub x z) (a.dct x u z h i) i, fun x C dx fs z h => b.ins x C dx fs (a.sub x z) (a.ins x C dx fs z h), fun x vs h => b.tup x vs (a.tup x vs h), fun x fs h => b.xd x fs (a.xd x fs h), fun x o vs h => b.frl x o vs (a.frl x o vs h), fun x φ h => b.ext x φ (a.ext x φ h), fun x ps z h => b.tbl x ps (a.sub x z) (a.tbl x ps z h)⟩
abbrev Wd.ke (w w' : Wd) : Prop := Ke w.Z w.H w'.Z w'.H
end
/-! ### slots -/
inductive SV where
  | fz (d : D) | own (d : D)
abbrev PSt := List (Option SV)
structure Slots (K : PySem.W.Frag) (mg : Str → Option Value) (w0 w : Wd) (ρ : PSt) (σ : L2.St) : Prop where
  len : ρ.length = σ.length
  fz : ∀ (i : Nat) (d : D), ρ[i]? = some (some (.fz d)) → ∃ v, σ[i]? = some (some v) ∧ Rep K mg w.Z w.H v d
  own : ∀ (i : Nat) (d : D), ρ[i]? = some (some (.own d)) → ∃ p, σ[i]? = some (some (.ref p)) ∧ CellAt K mg w.Z w.H p d ∧ ¬ w.Z p ∧ w.M p = none ∧ w0.H p = none
  dis : ∀ (i j : Nat) (p : Addr) (d e : D), ρ[i]? = some (some (.own d)) → ρ[j]? = some (some (.own e)) → σ[i]? = some (some (.ref p)) → σ[j]? = some (some (.ref p)) → i = j
/-- the base of a run: the world at its begin, and what is laid aside (kept as it is) -/
structure Bse where
  w : Wd
  T : List (Addr × HO)
structure Rl (K : PySem.W.Frag) (mg : Str → Option Value) (B : Bse) (w : Wd) (ρ : PSt) (σ : L2.St) : Prop where
  ok0 : B.w.Ok K mg
  ok : w.Ok K mg
  le : Le B.w w
  sl : Slots K mg B.w w ρ σ
  tmp : ∀ q ∈ B.T, w.H q.1 = some q.2 ∧ w.M q.1 = none ∧ ¬ w.Z q.1 ∧ B.w.H q.1 = none ∧ ∀ (i : Nat) (d : D), ρ[i]? = some (some (.own d)) → σ[i]? ≠ some (some (.ref q.1))
/-- a new object of one's own, apart from the slots -/
structure OwnR (K : PySem.W.Frag) (mg : Str → Option Value) (B : Bse) (w : Wd) (ρ : PSt) (σ : L2.St) (p : Addr) (d : D) : Prop where
  at_ : CellAt K mg w.Z w.H p d
  nz : ¬ w.Z p
  nm : w.M p = none
  n0 : B.w.H p = none
  dis : ∀ (i : Nat) (e : D), ρ[i]? = some (some (.own e)) → σ[i]? ≠ some (some (.ref p))
  nt : ∀ q ∈ B.T, q.1 ≠ p
section
variable {K : PySem.W.Frag} {mg : Str → Option Value} {B : Bse} {w0 w w' : Wd} {ρ : PSt} {σ : L2.St} {p : Addr} {d : D}
theorem Le.keepsM (h : Le w w') {q : Addr} {o : HO} (ho : w.H q = some o) (hm : w.M q = none) : w'.M q = none := by
  cases e : w'.M q with
  | none => rfl
  | some d' =>
    rcases h.newc q d' e with z | z
    · exact absurd hm z
    · rw [ho] at z; cases z
theorem Le.keepsZ (h : Le w w') {q : Addr} {o : HO} (ho : w.H q = some o) (hz : ¬ w.Z q) : ¬ w'.Z q := fun z => by
  rcases h.newz q z with z | z
  · exact hz z
  · rw [ho] at z; cases z
/-- behind a call -/
theorem Rl.call (R : Rl K mg B w ρ σ) (h : Le w w') (ok : w'.Ok K mg) : Rl K mg B w' ρ σ := by
  have k := h.ke R.ok
  refine ⟨R.ok0, ok, R.le.trans h, ⟨R.sl.len, fun i d e => ?_, fun i d e => ?_, R.sl.dis⟩, fun q hq => ?_⟩
  · obtain ⟨v, h1, h2⟩ := R.sl.fz i d e
    exact ⟨v, h1, h2.ke k⟩
  · obtain ⟨q, h1, h2, h3, h4, h5⟩ := R.sl.own i d e
    obtain ⟨o, ho, _⟩ := h2.some
    exact ⟨q, h1, h2.ke k ((h.frame q o ho h4).trans ho.symm), h.keepsZ ho h3, h.keepsM ho h4, h5⟩
  · obtain ⟨h1, h2, h3, h4, h5⟩ := R.tmp q hq
    exact ⟨h.frame _ _ h1 h2, h.keepsM h1 h2, h.keepsZ h1 h3, h4, h5⟩
/-- the frozen set grown by one -/
def Wd.frz (w : Wd) (p : Addr) : Wd := { w with Z := fun a => w.Z a ∨ a = p }
theorem Wd.frz_ke (w : Wd) (p : Addr) : w.ke (w.frz p) := ⟨fun _ h => .inl h, fun _ _ _ h => h, fun _ _ _ h _ => h, fun _ _ _ _ _ h => h, fun _ _ h => h, fun _ _ h => h, fun _ _ _ h => h, fun _ _ h => h, fun _ _ _ h => h⟩
theorem Wd.frz_ok (ok : w.Ok K mg) (hm : w.M p = none) (hp : w.H p ≠ none) : (w.frz p).Ok K mg where
  cells := fun a d h => by
    obtain ⟨h1, h2⟩ := ok.cells a d h
    refine ⟨fun z => ?_, h2.ke (w.frz_ke p) rfl⟩
    rcases z with z | rfl
    · exact h1 z
    · have h : w.M a = some d := h
      rw [hm] at h; cases h
  zin := fun a z => by
    rcases z with z | rfl
    · exact ok.zin a z
    · exact hp
  ztup := ok.ztup
theorem Wd.frz_le (le : Le w0 w) (n : w0.H p = none) : Le w0 (w.frz p) :=
  ⟨fun a h => .inl (le.sub a h), le.frame, le.there, le.newc, fun a z => by
    rcases z with z | rfl
    · exact le.newz a z
    · exact .inr n⟩
/-- an own result frozen -/
theorem OwnR.freeze (R : Rl K mg B w ρ σ) (o : OwnR K mg B w ρ σ p d) : Rl K mg B (w.frz p) ρ σ ∧ Rep K mg (w.frz p).Z (w.frz p).H (.ref p) d := by
  obtain ⟨ho, hp, _⟩ := o.at_.some
  refine ⟨⟨R.ok0, Wd.frz_ok R.ok o.nm (by rw [hp]; exact fun z => by cases z), Wd.frz_le R.le o.n0, ⟨R.sl.len, fun i d e => ?_, fun i d e => ?_, R.sl.dis⟩, fun q hq => ?_⟩, (o.at_.ke (w.frz_ke p) rfl).rep (.inr rfl)⟩
  · obtain ⟨v, h1, h2⟩ := R.sl.fz i d e
    exact ⟨v, h1, h2.ke (w.frz_ke p)⟩
  · obtain ⟨q, h1, h2, h3, h4, h5⟩ := R.sl.own i d e
    refine ⟨q, h1, h2.ke (w.frz_ke p) rfl, fun z => ?_, h4, h5⟩
    rcases z with z | rfl
    · exact h3 z
    · exact o.dis i d e h1
  · obtain ⟨h1, h2, h3, h4, h5⟩ := R.tmp q hq
    refine ⟨h1, h2, fun z => ?_, h4, h5⟩
    rcases z with z | z
    · exact h3 z
    · exact o.nt q hq z
end
def updM (M : PHp) (a : Addr) (d : D) : PHp := fun b => if b = a then some d else M b
theorem updM_same {M : PHp} {a : Addr} {d : D} : updM M a d a = some d := by unfold updM; rw [if_pos rfl]
theorem updM_ne {M : PHp} {a b : Addr} {d : D} (h : b ≠ a) : updM M a d b = M b := by unfold updM; rw [if_neg h]
theorem updM_updM {M : PHp} {a : Addr} {d e : D} : updM (updM M a d) a e = updM M a e := by
  funext b; unfold updM; split <;> rfl
end CM

/-! the pure layer: readings over trees, and what they mean -/
namespace CM
open PySem PySem.Spec PyProof.Rows L2
abbrev XP := Str → D → PSt → PHp → Prop
abbrev QP := D → PSt → PHp → Prop
abbrev TEp := PSt → PHp → XP → QP → Prop
abbrev TTp := PSt → PHp → XP → (Bool → PSt → PHp → Prop) → Prop
abbrev TAp := PSt → PHp → XP → (List D → PSt → PHp → Prop) → Prop
structure EndsP where
  nx : PSt → PHp → Prop
  rt : QP
  bk : PSt → PHp → Prop := fun _ _ => False
  ct : PSt → PHp → Prop := fun _ _ => False
abbrev TSp := XP → EndsP → PSt → PHp → Prop
/-- an exception of the class c with what it was given -/
def XRep (K : PySem.W.Frag) (mg : Str → Option Value) (w : Wd) (c : Str) (g : D) (cls : Value) (dx : Option Addr) : Prop :=
  ∃ C, mg c = some (.ref C) ∧ cls = .ref C ∧ ∃ p fs v, dx = some p ∧ w.H p = some (.xd fs) ∧ fs.lookup ("given" : Str) = some v ∧ Rep K mg w.Z w.H v g
section
variable (K : PySem.W.Frag) (mg : Str → Option Value) (W : WX)
def LX (B : Bse) (w : Wd) (σ : L2.St) (E0 : XP) : Prop := ∀ c g ρ' M', E0 c g ρ' M' → ∀ w' cls dx, w'.M = M' → w.ke w' → Rl K mg B w' ρ' σ → XRep K mg w' c g cls dx → W cls dx σ w'.H
def LW (t : TEp) (w : Wd) (σ : L2.St) (Q : VK) : Prop := ∃ (B : Bse) (ρ : PSt) (Q0 : QP) (E0 : XP), Rl K mg B w ρ σ ∧ t ρ w.M E0 Q0 ∧
  (∀ d ρ' M', Q0 d ρ' M' → ∀ w' v, w'.M = M' → w.ke w' → Rl K mg B w' ρ' σ → Rep K mg w'.Z w'.H v d → Q v w'.H) ∧ LX K mg W B w σ E0
/-- .. whose value is a new object of one's own -/
def LWo (t : TEp) (w : Wd) (σ : L2.St) (Q : VK) : Prop := ∃ (B : Bse) (ρ : PSt) (Q0 : QP) (E0 : XP), Rl K mg B w ρ σ ∧ t ρ w.M E0 Q0 ∧
  (∀ d ρ' M', Q0 d ρ' M' → ∀ w' p, w'.M = M' → w.ke w' → Rl K mg B w' ρ' σ → OwnR K mg B w' ρ' σ p d → Q (.ref p) w'.H) ∧ LX K mg W B w σ E0
def LE (t : TEp) : TE := fun σ H Q => ∃ w, w.H = H ∧ LW K mg W t w σ Q
def LO (t : TEp) : TE := fun σ H Q => ∃ w, w.H = H ∧ LWo K mg W t w σ Q
def LWt (t : TTp) (w : Wd) (σ : L2.St) (Q : Bool → Hp → Prop) : Prop := ∃ (B : Bse) (ρ : PSt) (Q0 : Bool → PSt → PHp → Prop) (E0 : XP), Rl K mg B w ρ σ ∧ t ρ w.M E0 Q0 ∧
  (∀ b ρ' M', Q0 b ρ' M' → ∀ w', w'.M = M' → w.ke w' → Rl K mg B w' ρ' σ → Q b w'.H) ∧ LX K mg W B w σ E0
def LT (t : TTp) : TT := fun σ H Q => ∃ w, w.H = H ∧ LWt K mg W t w σ Q
def LWa (t : TAp) (w : Wd) (σ : L2.St) (Q : List V → Hp → Prop) : Prop := ∃ (B : Bse) (ρ : PSt) (Q0 : List D → PSt → PHp → Prop) (E0 : XP), Rl K mg B w ρ σ ∧ t ρ w.M E0 Q0 ∧
  (∀ ds ρ' M', Q0 ds ρ' M' → ∀ w' vs, w'.M = M' → w.ke w' → Rl K mg B w' ρ' σ → Reps K mg w'.Z w'.H vs ds → Q vs w'.H) ∧ LX K mg W B w σ E0
def LA (t : TAp) : TA := fun σ H Q => ∃ w, w.H = H ∧ LWa K mg W t w σ Q
end
/-- the judgements -/
abbrev PEp (W : WX) (X : Cx) (e : Expr) (t : TEp) : Prop := PE X e (LE X.K X.mg W t)
abbrev PEo (W : WX) (X : Cx) (e : Expr) (t : TEp) : Prop := PE X e (LO X.K X.mg W t)
abbrev PTp (W : WX) (X : Cx) (e : Expr) (t : TTp) : Prop := PT X e (LT X.K X.mg W t)
abbrev PAp (W : WX) (X : Cx) (es : List Expr) (t : TAp) : Prop := PA X es (LA X.K X.mg W t)
section
variable {K : PySem.W.Frag} {mg : Str → Option Value} {B : Bse} {w : Wd} {W : WX} {σ : L2.St} {H : Hp} {Q : VK}
theorem LX.ke {w w' : Wd} {E0 : XP} (h : LX K mg W B w σ E0) (k : w.ke w') : LX K mg W B w' σ E0 := fun c g ρ' M' e w2 cls dx e2 k2 R x => h c g ρ' M' e w2 cls dx e2 (k.trans k2) R x
/-- a value that is there -/
theorem LW.ret {d : D} {v : V} (h : LW K mg W (fun ρ M E Q => Q d ρ M) w σ Q) (r : Rep K mg w.Z w.H v d) : Q v w.H := by
  obtain ⟨B, ρ, Q0, E0, R, h, k, x⟩ := h
  exact k d ρ _ h w v rfl (Ke.refl _ _) R r
/-- a first part, then the rest -/
theorem LE.bind {t1 : TEp} {k : D → TEp} (h : LE K mg W (fun ρ M E Q => t1 ρ M E fun a ρ1 M1 => k a ρ1 M1 E Q) σ H Q) :
    LE K mg W t1 σ H fun x H1 => ∃ w1 a, w1.H = H1 ∧ Rep K mg w1.Z w1.H x a ∧ LW K mg W (k a) w1 σ Q := by
  obtain ⟨w, rfl, B, ρ, Q0, E0, R, h, kq, ke⟩ := h
  refine ⟨w, rfl, B, ρ, _, E0, R, h, fun a ρ1 M1 h1 w1 x e1 k1 R1 r1 => ⟨w1, a, rfl, r1, B, ρ1, Q0, E0, R1, e1 ▸ h1, fun d ρ' M' h2 w2 v e2 k2 R2 r2 => kq d ρ' M' h2 w2 v e2 (k1.trans k2) R2 r2, ke.ke k1⟩, ke⟩
theorem LW.le {t : TEp} (h : LW K mg W t w σ Q) : LE K mg W t σ w.H Q := ⟨w, rfl, h⟩
/-- as LE.bind, with something frozen carried along -/
theorem LW.bind {t1 : TEp} {k : D → TEp} {x0 : V} {a0 : D} (r0 : Rep K mg w.Z w.H x0 a0) (h : LW K mg W (fun ρ M E Q => t1 ρ M E fun a ρ1 M1 => k a ρ1 M1 E Q) w σ Q) :
    LE K mg W t1 σ w.H fun x H1 => ∃ w1 a, w1.H = H1 ∧ Rep K mg w1.Z w1.H x0 a0 ∧ Rep K mg w1.Z w1.H x a ∧ LW K mg W (k a) w1 σ Q := by
  obtain ⟨B, ρ, Q0, E0, R, h, kq, ke⟩ := h
  refine ⟨w, rfl, B, ρ, _, E0, R, h, fun a ρ1 M1 h1 w1 x e1 k1 R1 r1 => ⟨w1, a, rfl, r0.ke k1, r1, B, ρ1, Q0, E0, R1, e1 ▸ h1, fun d ρ' M' h2 w2 v e2 k2 R2 r2 => kq d ρ' M' h2 w2 v e2 (k1.trans k2) R2 r2, ke.ke k1⟩, ke⟩
theorem LWo.bind {t1 : TEp} {k : D → TEp} {x0 : V} {a0 : D} (r0 : Rep K mg w.Z w.H x0 a0) (h : LWo K mg W (fun ρ M E Q => t1 ρ M E fun a ρ1 M1 => k a ρ1 M1 E Q) w σ Q) :
    LE K mg W t1 σ w.H fun x H1 => ∃ w1 a, w1.H = H1 ∧ Rep K mg w1.Z w1.H x0 a0 ∧ Rep K mg w1.Z w1.H x a ∧ LWo K mg W (k a) w1 σ Q := by
  obtain ⟨B, ρ, Q0, E0, R, h, kq, ke⟩ := h
  refine ⟨w, rfl, B, ρ, _, E0, R, h, fun a ρ1 M1 h1 w1 x e1 k1 R1 r1 => ⟨w1, a, rfl, r0.ke k1, r1, B, ρ1, Q0, E0, R1, e1 ▸ h1, fun d ρ' M' h2 w2 v e2 k2 R2 r2 => kq d ρ' M' h2 w2 v e2 (k1.trans k2) R2 r2, ke.ke k1⟩, ke⟩
/-- a new object laid: what is of one's own -/
def Wd.lay (w : Wd) (p : Addr) (o : HO) : Wd := { w with H := upd w.H p o }
theorem lay_ke {p : Addr} {o : HO} (hp : w.H p = none) : w.ke (w.lay p o) := by
  have e : ∀ a u, w.H a = some u → upd w.H p o a = some u := fun a u h => by rw [upd_ne (ne_of_none h hp)]; exact h
  exact ⟨fun _ h => h, fun a vs z h => e a _ h, fun a u z h i => h.elim (fun h => .inl (e a _ h)) fun ⟨ob, h⟩ => .inr ⟨ob, e a _ h⟩, fun a C dx fs z h => e a _ h, fun a vs h => e a _ h, fun a fs h => e a _ h, fun a o vs h => e a _ h, fun a φ h => e a _ h, fun a ps z h => e a _ h⟩
theorem lay_ok {p : Addr} {o : HO} (ok : w.Ok K mg) (hp : w.H p = none) : (w.lay p o).Ok K mg where
  cells := fun a d h => by
    obtain ⟨h1, h2⟩ := ok.cells a d h
    obtain ⟨u, hu, _⟩ := h2.some
    exact ⟨h1, h2.ke (lay_ke hp) (upd_ne (ne_of_none hu hp))⟩
  zin := fun a z => by
    have h := ok.zin a z
    show upd w.H p o a ≠ none
    unfold upd
    split
    · exact fun z => by cases z
    · exact h
  ztup := fun a vs h => by
    cases e : w.M a with
    | none => exact e
    | some d =>
      obtain ⟨h1, h2⟩ := ok.cells a d e
      obtain ⟨u, hu, nt, _⟩ := h2.some
      have h : upd w.H p o a = some (.tup vs) := h
      rw [upd_ne (ne_of_none hu hp), hu] at h
      exact absurd (Option.some.inj h) (nt vs)
theorem Rl.lay {ρ : PSt} {p : Addr} {o : HO} (R : Rl K mg B w ρ σ) (hp : w.H p = none) : Rl K mg B (w.lay p o) ρ σ := by
  refine R.call ⟨fun _ h => h, fun a u h _ => ?_, fun a h => ?_, fun a d h => .inl (by have h : w.M a = some d := h; rw [h]; exact fun z => by cases z), fun a h => .inl h⟩ (lay_ok R.ok hp)
  · show upd w.H p o a = some u
    rw [upd_ne (ne_of_none h hp)]
    exact h
  · show upd w.H p o a ≠ none
    unfold upd
    split
    · exact fun z => by cases z
    · exact h
theorem own_new {ρ : PSt} {p : Addr} {o : HO} {d : D} (R : Rl K mg B w ρ σ) (hp : w.H p = none) (c : CellAt K mg w.Z (w.lay p o).H p d) : OwnR K mg B (w.lay p o) ρ σ p d := by
  refine ⟨c, fun z => R.ok.zin p z hp, ?_, ?_, fun i e h1 h2 => ?_, fun q hq z => ?_⟩
  · show w.M p = none
    cases e : w.M p with
    | none => rfl
    | some d =>
      obtain ⟨_, h2⟩ := R.ok.cells p d e
      obtain ⟨u, hu, _⟩ := h2.some
      rw [hp] at hu; cases hu
  · cases e : B.w.H p with
    | none => rfl
    | some u => exact absurd hp (R.le.there p (by rw [e]; exact fun z => by cases z))
  · obtain ⟨q, g1, g2, _⟩ := R.sl.own i e h1
    rw [g1] at h2
    cases h2
    obtain ⟨u, hu, _⟩ := g2.some
    rw [hp] at hu; cases hu
  · obtain ⟨h1, _⟩ := R.tmp q hq
    rw [z, hp] at h1; cases h1
/-- a list laid -/
theorem LWo.newL {ds : List D} {vs : List V} (h : LWo K mg W (fun ρ M E Q => Q (.lst ds) ρ M) w σ Q) (r : Reps K mg w.Z w.H vs ds) : ∀ p, w.H p = none → Q (.ref p) (upd w.H p (.lst vs)) := fun p hp => by
  obtain ⟨B, ρ, Q0, E0, R, h, k, x⟩ := h
  exact k _ ρ _ h (w.lay p (.lst vs)) p rfl (lay_ke hp) (R.lay hp) (own_new R hp ⟨vs, upd_same, r.ke (lay_ke hp)⟩)
theorem LWo.newDK (h : LWo K mg W (fun ρ M E Q => Q (.dK []) ρ M) w σ Q) : ∀ p, w.H p = none → Q (.ref p) (upd w.H p (.dK [])) := fun p hp => by
  obtain ⟨B, ρ, Q0, E0, R, h, k, x⟩ := h
  exact k _ ρ _ h (w.lay p (.dK [])) p rfl (lay_ke hp) (R.lay hp) (own_new R hp ⟨[], upd_same, rfl, .nil⟩)
theorem LWo.newDT (h : LWo K mg W (fun ρ M E Q => Q (.dT []) ρ M) w σ Q) : ∀ p, w.H p = none → Q (.ref p) (upd w.H p (.dT [])) := fun p hp => by
  obtain ⟨B, ρ, Q0, E0, R, h, k, x⟩ := h
  exact k _ ρ _ h (w.lay p (.dT [])) p rfl (lay_ke hp) (R.lay hp) (own_new R hp ⟨[], upd_same, rfl, .nil⟩)
/-- a tuple laid -/
theorem LW.newT {ds : List D} {vs : List V} (h : LW K mg W (fun ρ M E Q => Q (.tup ds) ρ M) w σ Q) (r : Reps K mg w.Z w.H vs ds) : ∀ p, w.H p = none → Q (.ref p) (upd w.H p (.tup vs)) := fun p hp => by
  obtain ⟨B, ρ, Q0, E0, R, h, k, x⟩ := h
  exact k _ ρ _ h (w.lay p (.tup vs)) (.ref p) rfl (lay_ke hp) (R.lay hp) (.tup upd_same (r.ke (lay_ke hp)))
/-- what is one's own, frozen -/
theorem LW.of_own {t : TEp} (h : LW K mg W t w σ Q) : LWo K mg W t w σ Q := by
  obtain ⟨B, ρ, Q0, E0, R, h, k, x⟩ := h
  refine ⟨B, ρ, Q0, E0, R, h, fun d ρ' M' q w' p e k1 R1 o => ?_, x⟩
  obtain ⟨R2, r2⟩ := o.freeze R1
  exact k d ρ' M' q (w'.frz p) (.ref p) e (k1.trans (w'.frz_ke p)) R2 r2
end
section
variable {W : WX} {X : Cx} {e : Expr} {t : TEp}
theorem pf_own (h : PEo W X e t) : PEp W X e t := PE.imp h fun σ H Q ⟨w, e, q⟩ => ⟨w, e, q.of_own⟩
/-- as a cell -/
theorem Rl.putM {K : PySem.W.Frag} {mg : Str → Option Value} {B : Bse} {w : Wd} {ρ : PSt} {σ : L2.St} {p : Addr} {d : D} (R : Rl K mg B w ρ σ) (o : OwnR K mg B w ρ σ p d) : Rl K mg B { w with M := updM w.M p d } ρ σ := by
  refine ⟨R.ok0, ⟨fun a d' h => ?_, R.ok.zin, fun a vs h => ?_⟩, ⟨R.le.sub, R.le.frame, R.le.there, fun a d' h => ?_, R.le.newz⟩, ⟨R.sl.len, R.sl.fz, fun i d' e => ?_, R.sl.dis⟩, fun q hq => ?_⟩
  · have h : updM w.M p d a = some d' := h
    by_cases ha : a = p
    · subst ha
      rw [updM_same] at h
      cases h
      exact ⟨o.nz, o.at_⟩
    · rw [updM_ne ha] at h
      exact R.ok.cells a d' h
  · show updM w.M p d a = none
    obtain ⟨u, hu, nt, _⟩ := o.at_.some
    have ha : a ≠ p := by
      rintro rfl
      have h : w.H a = some (.tup vs) := h
      rw [hu] at h
      exact nt vs (Option.some.inj h)
    rw [updM_ne ha]
    exact R.ok.ztup a vs h
  · have h : updM w.M p d a = some d' := h
    by_cases ha : a = p
    · subst ha
      exact .inr o.n0
    · rw [updM_ne ha] at h
      exact R.le.newc a d' h
  · obtain ⟨q, h1, h2, h3, h4, h5⟩ := R.sl.own i d' e
    refine ⟨q, h1, h2, h3, ?_, h5⟩
    show updM w.M p d q = none
    rw [updM_ne (fun z : q = p => o.dis i d' e (by rw [← z]; exact h1))]
    exact h4
  · obtain ⟨h1, h2, h3, h4, h5⟩ := R.tmp q hq
    refine ⟨h1, ?_, h3, h4, h5⟩
    show updM w.M p d q.1 = none
    rw [updM_ne (o.nt q hq)]
    exact h2
def pCell (t : TEp) : TEp := fun ρ M E Q => t ρ M E fun d ρ' M' => ∀ a, M' a = none → Q (.ref a) ρ' (updM M' a d)
theorem pf_cell (h : PEo W X e t) : PEp W X e (pCell t) := PE.imp h fun σ H Q ⟨w, e, B, ρ, Q0, E0, R, h, k, x⟩ =>
  ⟨w, e, B, ρ, _, E0, R, h, fun d ρ' M' q w' p e1 k1 R1 o => k _ ρ' _ (q p (e1 ▸ o.nm)) { w' with M := updM w'.M p d } (.ref p) (by rw [← e1]) k1 (R1.putM o) (.ref p), x⟩
end
end CM

/-! the pure layer: slots, bases, views -/
namespace CM
open PySem PySem.Spec PyProof.Rows L2
/-- what a value holds: a cell by its content -/
def cn (M : PHp) : D → D
  | .ref a => (M a).getD (.ref a)
  | d => d
/-- a thing that is read -/
def View (K : PySem.W.Frag) (mg : Str → Option Value) (w : Wd) (v : V) : D → Prop
  | .lst ds => ∃ a vs, v = .ref a ∧ w.H a = some (.lst vs) ∧ Reps K mg w.Z w.H vs ds
  | .tup ds => ∃ a vs, v = .ref a ∧ (w.H a = some (.tup vs) ∨ WrT K a vs) ∧ Reps K mg w.Z w.H vs ds
  | .dK ds => ∃ a kvs, v = .ref a ∧ Rd w.H a (.dK kvs) ∧ kvs.map (·.1) = ds.map (·.1) ∧ Reps K mg w.Z w.H (kvs.map (·.2)) (ds.map (·.2))
  | .dT ds => ∃ a kvs, v = .ref a ∧ Rd w.H a (.dT kvs) ∧ kvs.map (·.1) = ds.map (·.1) ∧ Reps K mg w.Z w.H (kvs.map (·.2)) (ds.map (·.2))
  | .obj C fs => ∃ a Ca dx fvs, v = .ref a ∧ mg C = some (.ref Ca) ∧ w.H a = some (.ins Ca dx fvs) ∧ fvs.map (·.1) = fs.map (·.1) ∧ Reps K mg w.Z w.H (fvs.map (·.2)) (fs.map (·.2))
  | .str l => v = .str (sL l)
  | .int i => v = .int i
  | .bl b => v = .bl b
  | .non => v = .non
  | .ty n => v = .ty n
  | .fn x => ∃ f, v = .ref f ∧ mg x = some (.ref f)
  | .ref a => v = .ref a
  | .exc a _ _ _ => v = .ref a
  | .scr ns => ∃ a, v = .ref a ∧ SqL K w.H a (ns.map V.int)
  | .lam _ f _ => v = .ref f
  | .clo _ f _ _ => v = .ref f
  | .tbl _ => ∃ a, v = .ref a
section
variable {K : PySem.W.Frag} {mg : Str → Option Value} {B : Bse} {w : Wd} {ρ : PSt} {σ : L2.St} {p : Addr} {d : D} {v : V}
theorem CellAt.view (h : CellAt K mg w.Z w.H p d) : View K mg w (.ref p) d := by
  cases d <;> simp only [CellAt] at h
  · obtain ⟨_, h, r⟩ := h; exact ⟨_, _, rfl, h, r⟩
  · obtain ⟨_, h, q, r⟩ := h; exact ⟨_, _, rfl, .inl h, q, r⟩
  · obtain ⟨_, h, q, r⟩ := h; exact ⟨_, _, rfl, .inl h, q, r⟩
  · obtain ⟨_, _, _, m, h, q, r⟩ := h; exact ⟨_, _, _, _, rfl, m, h, q, r⟩
  · exact ⟨_, rfl⟩
theorem Rep.view (r : Rep K mg w.Z w.H v d) (ok : w.Ok K mg) : View K mg w v (cn w.M d) := by
  cases r with
  | non => rfl
  | bl b => rfl
  | int i => rfl
  | str l => rfl
  | ty n => rfl
  | fn h h2 => exact ⟨_, rfl, h⟩
  | ref a =>
    show View K mg w (.ref a) ((w.M a).getD (.ref a))
    cases e : w.M a with
    | none => rfl
    | some c => exact (ok.cells a c e).2.view
  | lst z h r => exact ⟨_, _, rfl, h, r⟩
  | tup h r => exact ⟨_, _, rfl, .inl h, r⟩
  | tupK h r => exact ⟨_, _, rfl, .inr h, r⟩
  | dK z h e r => exact ⟨_, _, rfl, h, e, r⟩
  | dT z h e r => exact ⟨_, _, rfl, h, e, r⟩
  | obj z m h e r => exact ⟨_, _, _, _, rfl, m, h, e, r⟩
  | exc h e r => rfl
  | scr h => exact ⟨_, rfl, h.elim (fun ⟨o, h⟩ => .inl (.inr ⟨o, h⟩)) .inr⟩
  | lam h1 h2 => rfl
  | clo h1 h2 e r => rfl
  | tbl z h => exact ⟨_, rfl⟩
/-! ### the slots, changed -/
theorem set_own {ρ : PSt} {i j : Nat} {s : Option SV} {e : D} (h : (ρ.set i s)[j]? = some (some (.own e))) : (j = i ∧ s = some (.own e)) ∨ (j ≠ i ∧ ρ[j]? = some (some (.own e))) := by
  by_cases hj : j = i
  · subst hj
    rw [List.getElem?_set] at h
    simp only [if_true] at h
    split at h
    · exact .inl ⟨rfl, Option.some.inj h⟩
    · cases h
  · rw [List.getElem?_set_ne (Ne.symm hj)] at h
    exact .inr ⟨hj, h⟩
theorem set_fz {ρ : PSt} {i j : Nat} {s : Option SV} {e : D} (h : (ρ.set i s)[j]? = some (some (.fz e))) : (j = i ∧ s = some (.fz e)) ∨ (j ≠ i ∧ ρ[j]? = some (some (.fz e))) := by
  by_cases hj : j = i
  · subst hj
    rw [List.getElem?_set] at h
    simp only [if_true] at h
    split at h
    · exact .inl ⟨rfl, Option.some.inj h⟩
    · cases h
  · rw [List.getElem?_set_ne (Ne.symm hj)] at h
    exact .inr ⟨hj, h⟩
/-- a slot forgotten -/
theorem Rl.drop (R : Rl K mg B w ρ σ) (i : Nat) : Rl K mg B w (ρ.set i none) σ := by
  refine ⟨R.ok0, R.ok, R.le, ⟨by rw [List.length_set]; exact R.sl.len, fun j e h => ?_, fun j e h => ?_, fun j k q d e h1 h2 => ?_⟩, fun q hq => ?_⟩
  · rcases set_fz h with ⟨_, z⟩ | ⟨_, z⟩
    · cases z
    · exact R.sl.fz j e z
  · rcases set_own h with ⟨_, z⟩ | ⟨_, z⟩
    · cases z
    · exact R.sl.own j e z
  · rcases set_own h1 with ⟨_, z⟩ | ⟨_, z1⟩
    · cases z
    · rcases set_own h2 with ⟨_, z⟩ | ⟨_, z2⟩
      · cases z
      · exact R.sl.dis j k q d e z1 z2
  · obtain ⟨h1, h2, h3, h4, h5⟩ := R.tmp q hq
    refine ⟨h1, h2, h3, h4, fun j e g => ?_⟩
    rcases set_own g with ⟨_, z⟩ | ⟨_, z⟩
    · cases z
    · exact h5 j e z
/-- moved out of its slot -/
theorem Rl.move {i : Nat} (R : Rl K mg B w ρ σ) (h : ρ[i]? = some (some (.own d))) : ∃ p, σ[i]? = some (some (.ref p)) ∧ Rl K mg B w (ρ.set i none) σ ∧ OwnR K mg B w (ρ.set i none) σ p d := by
  obtain ⟨p, h1, h2, h3, h4, h5⟩ := R.sl.own i d h
  refine ⟨p, h1, R.drop i, h2, h3, h4, h5, fun j e g1 g2 => ?_, fun q hq z => (R.tmp q hq).2.2.2.2 i d h (by rw [z]; exact h1)⟩
  rcases set_own g1 with ⟨_, z⟩ | ⟨n, z⟩
  · cases z
  · exact n (R.sl.dis j i p e d z h g2 h1)
/-- frozen where it stands -/
theorem Rl.fzAt {i : Nat} (R : Rl K mg B w ρ σ) (h : ρ[i]? = some (some (.own d))) : ∃ p, σ[i]? = some (some (.ref p)) ∧ Rl K mg B (w.frz p) (ρ.set i (some (.fz d))) σ ∧ Rep K mg (w.frz p).Z (w.frz p).H (.ref p) d := by
  obtain ⟨p, h1, R1, o⟩ := R.move h
  obtain ⟨R2, r2⟩ := o.freeze R1
  refine ⟨p, h1, ⟨R2.ok0, R2.ok, R2.le, ⟨by rw [List.length_set]; exact R.sl.len, fun j e g => ?_, fun j e g => ?_, fun j k q a b g1 g2 => ?_⟩, fun q hq => ?_⟩, r2⟩
  · rcases set_fz g with ⟨rfl, z⟩ | ⟨n, z⟩
    · cases z
      exact ⟨_, h1, r2⟩
    · exact R2.sl.fz j e (by rw [List.getElem?_set_ne (Ne.symm n)]; exact z)
  · rcases set_own g with ⟨_, z⟩ | ⟨n, z⟩
    · cases z
    · exact R2.sl.own j e (by rw [List.getElem?_set_ne (Ne.symm n)]; exact z)
  · rcases set_own g1 with ⟨_, z⟩ | ⟨n1, z1⟩
    · cases z
    · rcases set_own g2 with ⟨_, z⟩ | ⟨n2, z2⟩
      · cases z
      · exact R.sl.dis j k q a b z1 z2
  · obtain ⟨h1, h2, h3, h4, h5⟩ := R2.tmp q hq
    refine ⟨h1, h2, h3, h4, fun j e g => ?_⟩
    rcases set_own g with ⟨_, z⟩ | ⟨n, z⟩
    · cases z
    · exact h5 j e (by rw [List.getElem?_set_ne (Ne.symm n)]; exact z)
/-- a slot stored, frozen -/
theorem Rl.setF {i : Nat} (R : Rl K mg B w ρ σ) (r : Rep K mg w.Z w.H v d) : Rl K mg B w (ρ.set i (some (.fz d))) (σ.set i (some v)) := by
  have hl := R.sl.len
  refine ⟨R.ok0, R.ok, R.le, ⟨by rw [List.length_set, List.length_set]; exact hl, fun j e g => ?_, fun j e g => ?_, fun j k q a b g1 g2 => ?_⟩, fun q hq => ?_⟩
  · have hj : j < ρ.length := by
      have := (List.getElem?_eq_some_iff.mp g).1
      rwa [List.length_set] at this
    rcases set_fz g with ⟨rfl, z⟩ | ⟨n, z⟩
    · cases z
      exact ⟨v, by rw [List.getElem?_set_self (by omega)], r⟩
    · rw [List.getElem?_set_ne (Ne.symm n)]
      exact R.sl.fz j e z
  · rcases set_own g with ⟨_, z⟩ | ⟨n, z⟩
    · cases z
    · rw [List.getElem?_set_ne (Ne.symm n)]
      exact R.sl.own j e z
  · rcases set_own g1 with ⟨_, z⟩ | ⟨n1, z1⟩
    · cases z
    · rcases set_own g2 with ⟨_, z⟩ | ⟨n2, z2⟩
      · cases z
      · rw [List.getElem?_set_ne (Ne.symm n1), List.getElem?_set_ne (Ne.symm n2)]
        exact R.sl.dis j k q a b z1 z2
  · obtain ⟨h1, h2, h3, h4, h5⟩ := R.tmp q hq
    refine ⟨h1, h2, h3, h4, fun j e g => ?_⟩
    rcases set_own g with ⟨_, z⟩ | ⟨n, z⟩
    · cases z
    · rw [List.getElem?_set_ne (Ne.symm n)]
      exact h5 j e z
/-- a slot stored, of one's own -/
theorem Rl.setO {i : Nat} (R : Rl K mg B w ρ σ) (o : OwnR K mg B w ρ σ p d) : Rl K mg B w (ρ.set i (some (.own d))) (σ.set i (some (.ref p))) := by
  have hl := R.sl.len
  refine ⟨R.ok0, R.ok, R.le, ⟨by rw [List.length_set, List.length_set]; exact hl, fun j e g => ?_, fun j e g => ?_, fun j k q a b g1 g2 s1 s2 => ?_⟩, fun q hq => ?_⟩
  · rcases set_fz g with ⟨_, z⟩ | ⟨n, z⟩
    · cases z
    · rw [List.getElem?_set_ne (Ne.symm n)]
      exact R.sl.fz j e z
  · have hj : j < ρ.length := by
      have := (List.getElem?_eq_some_iff.mp g).1
      rwa [List.length_set] at this
    rcases set_own g with ⟨rfl, z⟩ | ⟨n, z⟩
    · cases z
      exact ⟨p, by rw [List.getElem?_set_self (by omega)], o.at_, o.nz, o.nm, o.n0⟩
    · rw [List.getElem?_set_ne (Ne.symm n)]
      exact R.sl.own j e z
  · rcases set_own g1 with ⟨rfl, z1⟩ | ⟨n1, z1⟩
    · rcases set_own g2 with ⟨rfl, z2⟩ | ⟨n2, z2⟩
      · rfl
      · have hj : j < ρ.length := by
          have := (List.getElem?_eq_some_iff.mp g1).1
          rwa [List.length_set] at this
        rw [List.getElem?_set_self (by omega)] at s1
        rw [List.getElem?_set_ne (Ne.symm n2)] at s2
        cases s1
        exact absurd s2 (o.dis k b z2)
    · rw [List.getElem?_set_ne (Ne.symm n1)] at s1
      rcases set_own g2 with ⟨rfl, z2⟩ | ⟨n2, z2⟩
      · have hk : k < ρ.length := by
          have := (List.getElem?_eq_some_iff.mp g2).1
          rwa [List.length_set] at this
        rw [List.getElem?_set_self (by omega)] at s2
        cases s2
        exact absurd s1 (o.dis j a z1)
      · rw [List.getElem?_set_ne (Ne.symm n2)] at s2
        exact R.sl.dis j k q a b z1 z2 s1 s2
  · obtain ⟨h1, h2, h3, h4, h5⟩ := R.tmp q hq
    refine ⟨h1, h2, h3, h4, fun j e g => ?_⟩
    have hj : j < ρ.length := by
      have := (List.getElem?_eq_some_iff.mp g).1
      rwa [List.length_set] at this
    rcases set_own g with ⟨rfl, z⟩ | ⟨n, z⟩
    · rw [List.getElem?_set_self (by omega)]
      intro z
      cases z
      exact o.nt q hq rfl
    · rw [List.getElem?_set_ne (Ne.symm n)]
      exact h5 j e z
/-! ### writing -/
theorem write_ke {o : HO} (ok : w.Ok K mg) (c : ∃ u, w.H p = some u ∧ (∀ vs, u ≠ .tup vs)) (nx : ∀ fs, w.H p ≠ some (.xd fs)) (nf : ∀ ob vs, w.H p ≠ some (.frz ob (.lst vs))) (ne : ∀ φ, w.H p ≠ some (.ext φ)) (nz : ¬ w.Z p) : w.ke { w with H := upd w.H p o } := by
  obtain ⟨u, hu, nt⟩ := c
  have e : ∀ a x, w.Z a → w.H a = some x → upd w.H p o a = some x := fun a x z h => by
    rw [upd_ne (fun q : a = p => nz (by rw [← q]; exact z))]
    exact h
  refine ⟨fun _ h => h, fun a vs z h => e a _ z h, fun a u z h i => h.elim (fun h => .inl (e a _ z h)) fun ⟨ob, h⟩ => .inr ⟨ob, e a _ z h⟩, fun a C dx fs z h => e a _ z h, fun a vs h => ?_, fun a fs h => ?_, fun a ob vs h => ?_, fun a φ h => ?_, fun a ps z h => e a _ z h⟩
  · show upd w.H p o a = some (.tup vs)
    rw [upd_ne]
    · exact h
    · rintro rfl
      rw [hu] at h
      exact nt vs (Option.some.inj h)
  · show upd w.H p o a = some (.xd fs)
    rw [upd_ne]
    · exact h
    · rintro rfl
      exact nx fs h
  · show upd w.H p o a = some (.frz ob (.lst vs))
    rw [upd_ne]
    · exact h
    · rintro rfl
      exact nf ob vs h
  · show upd w.H p o a = some (.ext φ)
    rw [upd_ne]
    · exact h
    · rintro rfl
      exact ne φ h
/-- the object of the slot i changed -/
theorem Rl.wrO {i : Nat} {o : HO} {d' : D} (R : Rl K mg B w ρ σ) (h : ρ[i]? = some (some (.own d))) (hs : σ[i]? = some (some (.ref p))) (c : CellAt K mg w.Z (upd w.H p o) p d') : Rl K mg B { w with H := upd w.H p o } (ρ.set i (some (.own d'))) σ := by
  obtain ⟨q, h1, h2, h3, h4, h5⟩ := R.sl.own i d h
  rw [hs] at h1
  cases h1
  obtain ⟨u, hu, nt, _⟩ := h2.some
  have k : w.ke { w with H := upd w.H p o } := write_ke R.ok ⟨u, hu, nt⟩ (fun fs => h2.nxd) (fun ob vs => h2.nfr) (fun φ => h2.next) h3
  refine ⟨R.ok0, ⟨fun a e g => ?_, fun a z => ?_, fun a vs g => ?_⟩, ⟨R.le.sub, fun a x g m => ?_, fun a g => ?_, R.le.newc, R.le.newz⟩, ⟨by rw [List.length_set]; exact R.sl.len, fun j e g => ?_, fun j e g => ?_, fun j k q a b g1 g2 s1 s2 => ?_⟩, fun q hq => ?_⟩
  · obtain ⟨g1, g2⟩ := R.ok.cells a e g
    refine ⟨g1, g2.ke k (upd_ne ?_)⟩
    rintro rfl
    have g : w.M a = some e := g
    rw [h4] at g; cases g
  · show upd w.H p o a ≠ none
    rw [upd_ne (fun q : a = p => h3 (by rw [← q]; exact z))]
    exact R.ok.zin a z
  · have g : upd w.H p o a = some (.tup vs) := g
    by_cases ha : a = p
    · subst ha
      exact h4
    · rw [upd_ne ha] at g
      exact R.ok.ztup a vs g
  · show upd w.H p o a = some x
    rw [upd_ne (fun q => by rw [q, h5] at g; cases g)]
    exact R.le.frame a x g m
  · show upd w.H p o a ≠ none
    rw [upd_ne (fun q => by rw [q] at g; exact g h5)]
    exact R.le.there a g
  · rcases set_fz g with ⟨_, z⟩ | ⟨n, z⟩
    · cases z
    · obtain ⟨v, g1, g2⟩ := R.sl.fz j e z
      exact ⟨v, g1, g2.ke k⟩
  · rcases set_own g with ⟨rfl, z⟩ | ⟨n, z⟩
    · cases z
      exact ⟨p, hs, c, h3, h4, h5⟩
    · obtain ⟨q, g1, g2, g3, g4, g5⟩ := R.sl.own j e z
      refine ⟨q, g1, g2.ke k (upd_ne ?_), g3, g4, g5⟩
      rintro rfl
      exact n (R.sl.dis j i q e d z h g1 hs)
  · rcases set_own g1 with ⟨rfl, z1⟩ | ⟨n1, z1⟩
    · rcases set_own g2 with ⟨rfl, z2⟩ | ⟨n2, z2⟩
      · rfl
      · exact R.sl.dis j k q d b h z2 s1 s2
    · rcases set_own g2 with ⟨rfl, z2⟩ | ⟨n2, z2⟩
      · exact R.sl.dis j k q a d z1 h s1 s2
      · exact R.sl.dis j k q a b z1 z2 s1 s2
  · obtain ⟨g1, g2, g3, g4, g5⟩ := R.tmp q hq
    have hqp : q.1 ≠ p := fun z => g5 i d h (by rw [z]; exact hs)
    refine ⟨(upd_ne hqp).trans g1, g2, g3, g4, fun j e g => ?_⟩
    rcases set_own g with ⟨rfl, z⟩ | ⟨n, z⟩
    · exact g5 j d h
    · exact g5 j e z
/-- a cell changed -/
theorem Rl.wrC {o : HO} {d' : D} (R : Rl K mg B w ρ σ) (h : w.M p = some d) (c : CellAt K mg w.Z (upd w.H p o) p d') : w.ke { w with M := updM w.M p d', H := upd w.H p o } ∧ Rl K mg B { w with M := updM w.M p d', H := upd w.H p o } ρ σ := by
  obtain ⟨h3, h2⟩ := R.ok.cells p d h
  obtain ⟨u, hu, nt, _⟩ := h2.some
  have k : w.ke { w with H := upd w.H p o } := write_ke R.ok ⟨u, hu, nt⟩ (fun fs => h2.nxd) (fun ob vs => h2.nfr) (fun φ => h2.next) h3
  have k' : w.ke { w with M := updM w.M p d', H := upd w.H p o } := k
  refine ⟨k', R.ok0, ⟨fun a e g => ?_, fun a z => ?_, fun a vs g => ?_⟩, ⟨R.le.sub, fun a x g m => ?_, fun a g => ?_, fun a e g => ?_, R.le.newz⟩, ⟨R.sl.len, fun j e g => ?_, fun j e g => ?_, R.sl.dis⟩, fun q hq => ?_⟩
  · have g : updM w.M p d' a = some e := g
    by_cases ha : a = p
    · subst ha
      rw [updM_same] at g
      cases g
      exact ⟨h3, c⟩
    · rw [updM_ne ha] at g
      obtain ⟨g1, g2⟩ := R.ok.cells a e g
      exact ⟨g1, g2.ke k (upd_ne ha)⟩
  · show upd w.H p o a ≠ none
    rw [upd_ne (fun q : a = p => h3 (by rw [← q]; exact z))]
    exact R.ok.zin a z
  · have g : upd w.H p o a = some (.tup vs) := g
    show updM w.M p d' a = none
    by_cases ha : a = p
    · subst ha
      rw [upd_same] at g
      obtain ⟨u', hu', nt', _⟩ := c.some
      rw [upd_same, g] at hu'
      exact absurd (Option.some.inj hu').symm (nt' vs)
    · rw [upd_ne ha] at g
      rw [updM_ne ha]
      exact R.ok.ztup a vs g
  · show upd w.H p o a = some x
    by_cases ha : a = p
    · subst ha
      rcases R.le.newc a d h with z | z
      · exact absurd m z
      · rw [g] at z; cases z
    · rw [upd_ne ha]
      exact R.le.frame a x g m
  · show upd w.H p o a ≠ none
    unfold upd
    split
    · exact fun z => by cases z
    · exact R.le.there a g
  · have g : updM w.M p d' a = some e := g
    by_cases ha : a = p
    · subst ha
      exact R.le.newc a d h
    · rw [updM_ne ha] at g
      exact R.le.newc a e g
  · obtain ⟨v, g1, g2⟩ := R.sl.fz j e g
    exact ⟨v, g1, g2.ke k⟩
  · obtain ⟨q, g1, g2, g3, g4, g5⟩ := R.sl.own j e g
    have hq : q ≠ p := by
      rintro rfl
      rw [h] at g4; cases g4
    refine ⟨q, g1, g2.ke k (upd_ne hq), g3, ?_, g5⟩
    show updM w.M p d' q = none
    rw [updM_ne hq]
    exact g4
  · obtain ⟨g1, g2, g3, g4, g5⟩ := R.tmp q hq
    have hqp : q.1 ≠ p := fun z => by rw [z, h] at g2; cases g2
    exact ⟨(upd_ne hqp).trans g1, (updM_ne hqp).trans g2, g3, g4, g5⟩
end
/-! ### bases: what is read at its place -/
structure Bs where
  get : PSt → PHp → Option D
  put : PSt → PHp → D → Option (PSt × PHp)
def bsSlot (i : Nat) : Bs where
  get := fun ρ M => match ρ[i]? with
    | some (some (.own d)) => some d
    | some (some (.fz d)) => some (cn M d)
    | _ => none
  put := fun ρ M d' => match ρ[i]? with
    | some (some (.own _)) => some (ρ.set i (some (.own d')), M)
    | some (some (.fz (.ref a))) => (M a).map fun _ => (ρ, updM M a d')
    | _ => none
def bsVal (a : D) : Bs where
  get := fun ρ M => some (cn M a)
  put := fun ρ M d' => match a with
    | .ref p => (M p).map fun _ => (ρ, updM M p d')
    | _ => none
structure Acc (K : PySem.W.Frag) (mg : Str → Option Value) (B : Bse) (w : Wd) (σ : L2.St) (v : V) (b : Bs) : Prop where
  get : ∀ w' ρ', w.ke w' → Rl K mg B w' ρ' σ → ∀ d, b.get ρ' w'.M = some d → View K mg w' v d
  put : ∀ w' ρ', w.ke w' → Rl K mg B w' ρ' σ → ∀ d' ρ'' M'', b.put ρ' w'.M d' = some (ρ'', M'') → ∃ p, v = .ref p ∧ (∀ o, Ke w'.Z w'.H w'.Z (upd w'.H p o)) ∧ ∀ o, CellAt K mg w'.Z (upd w'.H p o) p d' → Rl K mg B ⟨w'.Z, M'', upd w'.H p o⟩ ρ'' σ
  cell : ∀ w' ρ', w.ke w' → Rl K mg B w' ρ' σ → ∀ d' z d, b.put ρ' w'.M d' = some z → b.get ρ' w'.M = some d → ∃ p, v = .ref p ∧ CellAt K mg w'.Z w'.H p d
abbrev TBp := PSt → PHp → XP → (Bs → PSt → PHp → Prop) → Prop
def LB (K : PySem.W.Frag) (mg : Str → Option Value) (W : WX) (t : TBp) : TE := fun σ H Q => ∃ w, w.H = H ∧ ∃ (B : Bse) (ρ : PSt) (Q0 : Bs → PSt → PHp → Prop) (E0 : XP), Rl K mg B w ρ σ ∧ t ρ w.M E0 Q0 ∧
  (∀ b ρ' M', Q0 b ρ' M' → ∀ w' v, w'.M = M' → w.ke w' → Rl K mg B w' ρ' σ → Acc K mg B w' σ v b → Q v w'.H) ∧ LX K mg W B w σ E0
abbrev PBp (W : WX) (X : Cx) (e : Expr) (t : TBp) : Prop := PE X e (LB X.K X.mg W t)
def bVal (t : TEp) : TBp := fun ρ M E Q => t ρ M E fun a ρ' M' => Q (bsVal a) ρ' M'
def bSlot (i : Nat) : TBp := fun ρ M E Q => (∃ s, ρ[i]? = some (some s)) ∧ Q (bsSlot i) ρ M
section
variable {K : PySem.W.Frag} {mg : Str → Option Value} {B : Bse} {w : Wd} {W : WX} {σ : L2.St} {v : V}
theorem acc_val {a : D} (r : Rep K mg w.Z w.H v a) : Acc K mg B w σ v (bsVal a) where
  get := fun w' ρ' k R d h => by
    cases h
    exact (r.ke k).view R.ok
  put := fun w' ρ' k R d' ρ'' M'' h => by
    unfold bsVal at h
    cases a with
    | ref p =>
      have h : (w'.M p).map (fun _ => (ρ', updM w'.M p d')) = some (ρ'', M'') := h
      cases r
      cases e : w'.M p with
      | none => rw [e] at h; cases h
      | some d =>
        rw [e] at h
        cases h
        obtain ⟨h3, h2⟩ := R.ok.cells p d e
        obtain ⟨u, hu, nt, _⟩ := h2.some
        exact ⟨p, rfl, fun o => write_ke R.ok ⟨u, hu, nt⟩ (fun fs => h2.nxd) (fun ob vs => h2.nfr) (fun φ => h2.next) h3, fun o c => (R.wrC e c).2⟩
    | _ => cases h
  cell := fun w' ρ' k R d' z d h h2 => by
    unfold bsVal at h h2
    cases a with
    | ref p =>
      have h : (w'.M p).map (fun _ => (ρ', updM w'.M p d')) = some z := h
      have h2 : some ((w'.M p).getD (.ref p)) = some d := h2
      cases r
      cases e : w'.M p with
      | none => rw [e] at h; cases h
      | some c =>
        rw [e] at h2
        cases h2
        exact ⟨p, rfl, (R.ok.cells p c e).2⟩
    | _ => cases h
theorem acc_slot {i : Nat} (hv : σ[i]? = some (some v)) : Acc K mg B w σ v (bsSlot i) where
  get := fun w' ρ' k R d h => by
    have h : (match ρ'[i]? with | some (some (.own d)) => some d | some (some (.fz d)) => some (cn w'.M d) | _ => none) = some d := h
    split at h
    · rename_i d1 e
      cases h
      obtain ⟨p, h1, h2, _⟩ := R.sl.own i d e
      rw [hv] at h1
      cases h1
      exact h2.view
    · rename_i d1 e
      cases h
      obtain ⟨u, h1, h2⟩ := R.sl.fz i d1 e
      rw [hv] at h1
      cases h1
      exact h2.view R.ok
    · cases h
  put := fun w' ρ' k R d' ρ'' M'' h => by
    have h : (match ρ'[i]? with | some (some (.own _)) => some (ρ'.set i (some (.own d')), w'.M) | some (some (.fz (.ref a))) => (w'.M a).map fun _ => (ρ', updM w'.M a d') | _ => none) = some (ρ'', M'') := h
    split at h
    · rename_i d1 e
      cases h
      obtain ⟨p, h1, h2, h3, _⟩ := R.sl.own i d1 e
      rw [hv] at h1
      cases h1
      obtain ⟨u, hu, nt, _⟩ := h2.some
      exact ⟨p, rfl, fun o => write_ke R.ok ⟨u, hu, nt⟩ (fun fs => h2.nxd) (fun ob vs => h2.nfr) (fun φ => h2.next) h3, fun o c => R.wrO e hv c⟩
    · rename_i a e
      obtain ⟨u, h1, h2⟩ := R.sl.fz i _ e
      rw [hv] at h1
      cases h1
      cases h2
      cases e2 : w'.M a with
      | none => rw [e2] at h; cases h
      | some d =>
        rw [e2] at h
        cases h
        obtain ⟨h3, h2⟩ := R.ok.cells a d e2
        obtain ⟨u, hu, nt, _⟩ := h2.some
        exact ⟨a, rfl, fun o => write_ke R.ok ⟨u, hu, nt⟩ (fun fs => h2.nxd) (fun ob vs => h2.nfr) (fun φ => h2.next) h3, fun o c => (R.wrC e2 c).2⟩
    · cases h
  cell := fun w' ρ' k R d' z d h g => by
    have h : (match ρ'[i]? with | some (some (.own _)) => some (ρ'.set i (some (.own d')), w'.M) | some (some (.fz (.ref a))) => (w'.M a).map fun _ => (ρ', updM w'.M a d') | _ => none) = some z := h
    have g : (match ρ'[i]? with | some (some (.own d)) => some d | some (some (.fz d)) => some (cn w'.M d) | _ => none) = some d := g
    split at h
    · rename_i d1 e
      rw [e] at g
      cases g
      obtain ⟨p, h1, h2, h3, _⟩ := R.sl.own i _ e
      rw [hv] at h1
      cases h1
      exact ⟨p, rfl, h2⟩
    · rename_i a e
      rw [e] at g
      have g : some ((w'.M a).getD (.ref a)) = some d := g
      obtain ⟨u, h1, h2⟩ := R.sl.fz i _ e
      rw [hv] at h1
      cases h1
      cases h2
      cases e2 : w'.M a with
      | none => rw [e2] at h; cases h
      | some c =>
        rw [e2] at g
        cases g
        exact ⟨a, rfl, (R.ok.cells a c e2).2⟩
    · cases h
end
section
variable {W : WX} {X : Cx} {e : Expr}
theorem pb_val {t : TEp} (h : PEp W X e t) : PBp W X e (bVal t) := PE.imp h fun σ H Q ⟨w, e, B, ρ, Q0, E0, R, h, k, x⟩ =>
  ⟨w, e, B, ρ, _, E0, R, h, fun d ρ' M' q w' v e1 k1 R1 r1 => k _ ρ' M' q w' v e1 k1 R1 (acc_val r1), x⟩
theorem Slots.has {K : PySem.W.Frag} {mg : Str → Option Value} {w0 w : Wd} {ρ : PSt} {σ : L2.St} (S : Slots K mg w0 w ρ σ) {i : Nat} {s : SV} (h : ρ[i]? = some (some s)) : ∃ v, σ[i]? = some (some v) := by
  cases s with
  | fz d =>
    obtain ⟨v, h, _⟩ := S.fz i d h
    exact ⟨v, h⟩
  | own d =>
    obtain ⟨p, h, _⟩ := S.own i d h
    exact ⟨_, h⟩
theorem pb_slot {i : Nat} (h : PE X e (tVar i)) : PBp W X e (bSlot i) := PE.imp h fun σ H Q ⟨w, e, B, ρ, Q0, E0, R, ⟨⟨s, hs⟩, h⟩, k, x⟩ => by
  obtain ⟨v, hv⟩ := R.sl.has hs
  exact ⟨v, hv, e ▸ k _ ρ _ h w v rfl (Ke.refl _ _) R (acc_slot hv)⟩
end
end CM

/-! the pure layer: rules for expressions -/
namespace CM
open PySem PySem.Spec PyProof.Rows L2
theorem PT.imp {X : Cx} {e : Expr} {t t' : TT} (h : PT X e t) (hi : ∀ σ H Q, t' σ H Q → t σ H Q) : PT X e t' := ⟨fun pins s σ H Q I q => h.run pins s σ H Q I (hi _ _ _ q)⟩
theorem PW.imp {X : Cx} {e : Expr} {t t' : TT} (h : PW X e t) (hi : ∀ σ H Q, t' σ H Q → t σ H Q) : PW X e t' := ⟨fun wh pins s σ H Q I q => h.run wh pins s σ H Q I (hi _ _ _ q)⟩
theorem PA.imp {X : Cx} {e : List Expr} {t t' : TA} (h : PA X e t) (hi : ∀ σ H Q, t' σ H Q → t σ H Q) : PA X e t' := ⟨fun pos pins s σ H Q I q => h.run pos pins s σ H Q I (hi _ _ _ q)⟩
theorem PS.imp {X : Cx} {e : Stmt} {t t' : TS} (h : PS X e t) (hi : ∀ D σ H, t' D σ H → t D σ H) : PS X e t' := ⟨fun pins s σ H D I q => h.run pins s σ H D I (hi _ _ _ q)⟩
theorem PSs.imp {X : Cx} {e : List Stmt} {t t' : TS} (h : PSs X e t) (hi : ∀ D σ H, t' D σ H → t D σ H) : PSs X e t' := ⟨fun pins s σ H D I q => h.run pins s σ H D I (hi _ _ _ q)⟩
/-! ### the readings -/
def pRet (d : D) : TEp := fun ρ M E Q => Q d ρ M
def pNo : TEp := fun ρ M E Q => False
/-- a name: what is one's own is frozen by being read -/
def pVar (i : Nat) : TEp := fun ρ M E Q => match ρ[i]? with
  | some (some (.fz d)) => Q d ρ M
  | some (some (.own d)) => Q d (ρ.set i (some (.fz d))) M
  | _ => False
/-- a name read for the last time -/
def pMove (i : Nat) : TEp := fun ρ M E Q => match ρ[i]? with
  | some (some (.own d)) => Q d (ρ.set i none) M
  | _ => False
def pBin (f : D → D → TEp) (t1 t2 : TEp) : TEp := fun ρ M E Q => t1 ρ M E fun a ρ1 M1 => t2 ρ1 M1 E fun b ρ2 M2 => f (cn M2 a) (cn M2 b) ρ2 M2 E Q
def pUn (f : D → TEp) (t1 : TEp) : TEp := fun ρ M E Q => t1 ρ M E fun a ρ1 M1 => f (cn M1 a) ρ1 M1 E Q
def pTst (t : TEp) : TTp := fun ρ M E Q => t ρ M E fun d ρ' M' => ∃ b, d = .bl b ∧ Q b ρ' M'
def pNil : TAp := fun ρ M E Q => Q [] ρ M
def pCons (t : TEp) (u : TAp) : TAp := fun ρ M E Q => t ρ M E fun a ρ1 M1 => u ρ1 M1 E fun ds ρ2 M2 => Q (a :: ds) ρ2 M2
section
variable {K : PySem.W.Frag} {mg : Str → Option Value} {B : Bse} {w : Wd} {W : WX} {σ : L2.St} {H : Hp} {Q : VK}
def OpV (K : PySem.W.Frag) (mg : Str → Option Value) (f : D → D → TEp) (r : R2) : Prop := ∀ (W : WX) (w : Wd) (σ : L2.St) (x y : V) (a b : D) (Q : VK), View K mg w x a → View K mg w y b → LW K mg W (f a b) w σ Q → r x y w.H Q
def OpVo (K : PySem.W.Frag) (mg : Str → Option Value) (f : D → D → TEp) (r : R2) : Prop := ∀ (W : WX) (w : Wd) (σ : L2.St) (x y : V) (a b : D) (Q : VK), View K mg w x a → View K mg w y b → LWo K mg W (f a b) w σ Q → r x y w.H Q
theorem LW.ok {t : TEp} (h : LW K mg W t w σ Q) : w.Ok K mg := by
  obtain ⟨B, ρ, Q0, E0, R, _⟩ := h
  exact R.ok
theorem LWo.ok {t : TEp} (h : LWo K mg W t w σ Q) : w.Ok K mg := by
  obtain ⟨B, ρ, Q0, E0, R, _⟩ := h
  exact R.ok
theorem LE.mono {t : TEp} {Q' : VK} (h : LE K mg W t σ H Q) (hq : ∀ v H', Q v H' → Q' v H') : LE K mg W t σ H Q' := by
  obtain ⟨w, e, B, ρ, Q0, E0, R, h, k, x⟩ := h
  exact ⟨w, e, B, ρ, Q0, E0, R, h, fun d ρ' M' q w' v e1 k1 R1 r1 => hq _ _ (k d ρ' M' q w' v e1 k1 R1 r1), x⟩
theorem LO.bind {t1 : TEp} {k : D → TEp} (h : LO K mg W (fun ρ M E Q => t1 ρ M E fun a ρ1 M1 => k a ρ1 M1 E Q) σ H Q) :
    LE K mg W t1 σ H fun x H1 => ∃ w1 a, w1.H = H1 ∧ Rep K mg w1.Z w1.H x a ∧ LWo K mg W (k a) w1 σ Q := by
  obtain ⟨w, rfl, B, ρ, Q0, E0, R, h, kq, ke⟩ := h
  refine ⟨w, rfl, B, ρ, _, E0, R, h, fun a ρ1 M1 h1 w1 x e1 k1 R1 r1 => ⟨w1, a, rfl, r1, B, ρ1, Q0, E0, R1, e1 ▸ h1, fun d ρ' M' h2 w2 v e2 k2 R2 r2 => kq d ρ' M' h2 w2 v e2 (k1.trans k2) R2 r2, ke.ke k1⟩, ke⟩
theorem op_lift {f : D → D → TEp} {r : R2} {t1 t2 : TEp} (hf : OpV K mg f r) (h : LE K mg W (pBin f t1 t2) σ H Q) : tOp r (LE K mg W t1) (LE K mg W t2) σ H Q := by
  have h1 := LE.bind (k := fun a => fun ρ M E Q => t2 ρ M E fun b ρ2 M2 => f (cn M2 a) (cn M2 b) ρ2 M2 E Q) h
  refine h1.mono fun x H1 ⟨w1, a, e1, r1, l1⟩ => ?_
  subst e1
  have h2 := LW.bind (k := fun b => fun ρ M E Q => f (cn M a) (cn M b) ρ M E Q) r1 l1
  refine h2.mono fun y H2 ⟨w2, b, e2, r1, r2, l2⟩ => ?_
  subst e2
  exact hf W w2 σ x y _ _ Q (r1.view l2.ok) (r2.view l2.ok) l2
theorem op_lifto {f : D → D → TEp} {r : R2} {t1 t2 : TEp} (hf : OpVo K mg f r) (h : LO K mg W (pBin f t1 t2) σ H Q) : tOp r (LE K mg W t1) (LE K mg W t2) σ H Q := by
  have h1 := LO.bind (k := fun a => fun ρ M E Q => t2 ρ M E fun b ρ2 M2 => f (cn M2 a) (cn M2 b) ρ2 M2 E Q) h
  refine h1.mono fun x H1 ⟨w1, a, e1, r1, l1⟩ => ?_
  subst e1
  have h2 := LWo.bind (k := fun b => fun ρ M E Q => f (cn M a) (cn M b) ρ M E Q) r1 l1
  refine h2.mono fun y H2 ⟨w2, b, e2, r1, r2, l2⟩ => ?_
  subst e2
  exact hf W w2 σ x y _ _ Q (r1.view l2.ok) (r2.view l2.ok) l2
theorem tst_lift {t : TEp} {Qb : Bool → Hp → Prop} (h : LT K mg W (pTst t) σ H Qb) : LE K mg W t σ H fun x H' => ∃ k, x = .bl k ∧ Qb k H' := by
  obtain ⟨w, rfl, B, ρ, Q0, E0, R, h, k, x⟩ := h
  refine ⟨w, rfl, B, ρ, _, E0, R, h, fun d ρ' M' ⟨b, e, q⟩ w' v e1 k1 R1 r1 => ?_, x⟩
  subst e
  cases r1
  exact ⟨b, rfl, k b ρ' M' q w' e1 k1 R1⟩
theorem LT.bind {t1 : TTp} {t2 t3 : TTp} {Qb : Bool → Hp → Prop} (h : LT K mg W (fun ρ M E Q => t1 ρ M E fun b ρ1 M1 => if b = true then t2 ρ1 M1 E Q else t3 ρ1 M1 E Q) σ H Qb) :
    LT K mg W t1 σ H fun b H1 => if b = true then LT K mg W t2 σ H1 Qb else LT K mg W t3 σ H1 Qb := by
  obtain ⟨w, rfl, B, ρ, Q0, E0, R, h, k, x⟩ := h
  refine ⟨w, rfl, B, ρ, _, E0, R, h, fun b ρ' M' q w' e1 k1 R1 => ?_, x⟩
  subst e1
  split
  · rename_i hb
    rw [if_pos hb] at q
    exact ⟨w', rfl, B, ρ', Q0, E0, R1, q, fun b2 ρ2 M2 q2 w2 e2 k2 R2 => k b2 ρ2 M2 q2 w2 e2 (k1.trans k2) R2, x.ke k1⟩
  · rename_i hb
    rw [if_neg hb] at q
    exact ⟨w', rfl, B, ρ', Q0, E0, R1, q, fun b2 ρ2 M2 q2 w2 e2 k2 R2 => k b2 ρ2 M2 q2 w2 e2 (k1.trans k2) R2, x.ke k1⟩
theorem LT.yes {b : Bool} {Qb : Bool → Hp → Prop} (h : LT K mg W (fun ρ M E Q => Q b ρ M) σ H Qb) : Qb b H := by
  obtain ⟨w, rfl, B, ρ, Q0, E0, R, h, k, x⟩ := h
  exact k b ρ _ h w rfl (Ke.refl _ _) R
theorem LT.mono {t : TTp} {Qb Qb' : Bool → Hp → Prop} (h : LT K mg W t σ H Qb) (hq : ∀ v H', Qb v H' → Qb' v H') : LT K mg W t σ H Qb' := by
  obtain ⟨w, e, B, ρ, Q0, E0, R, h, k, x⟩ := h
  exact ⟨w, e, B, ρ, Q0, E0, R, h, fun d ρ' M' q w' e1 k1 R1 => hq _ _ (k d ρ' M' q w' e1 k1 R1), x⟩
end
def pAndT (t u : TTp) : TTp := fun ρ M E Q => t ρ M E fun b ρ1 M1 => if b = true then u ρ1 M1 E Q else Q false ρ1 M1
def pOrT (t u : TTp) : TTp := fun ρ M E Q => t ρ M E fun b ρ1 M1 => if b = true then Q true ρ1 M1 else u ρ1 M1 E Q
def pNotT (t : TTp) : TTp := fun ρ M E Q => t ρ M E fun b ρ1 M1 => Q (!b) ρ1 M1
def pIf (c : TTp) (t u : TEp) : TEp := fun ρ M E Q => c ρ M E fun b ρ1 M1 => if b = true then t ρ1 M1 E Q else u ρ1 M1 E Q
def pAndV (t u : TEp) : TEp := fun ρ M E Q => t ρ M E fun d ρ1 M1 => ∃ b, d = .bl b ∧ if b = true then u ρ1 M1 E Q else Q (.bl false) ρ1 M1
def pOrV (t u : TEp) : TEp := fun ρ M E Q => t ρ M E fun d ρ1 M1 => ∃ b, d = .bl b ∧ if b = true then Q (.bl true) ρ1 M1 else u ρ1 M1 E Q
def pNotV (t : TEp) : TEp := fun ρ M E Q => t ρ M E fun d ρ1 M1 => ∃ b, d = .bl b ∧ Q (.bl (!b)) ρ1 M1
section
variable {W : WX} {X : Cx} {e a b c : Expr} {es : List Expr} {t t1 t2 t3 : TEp} {tt uu : TTp} {ta : TAp} {pos : Pos}
theorem pp_var {i : Nat} (h : PE X e (tVar i)) : PEp W X e (pVar i) := PE.imp h fun σ H Q ⟨w, e, B, ρ, Q0, E0, R, h, k, x⟩ => by
  subst e
  unfold pVar at h
  split at h
  · rename_i d hd
    obtain ⟨v, hv, r⟩ := R.sl.fz i d hd
    exact ⟨v, hv, k d ρ _ h w v rfl (Ke.refl _ _) R r⟩
  · rename_i d hd
    obtain ⟨p, hp, R2, r⟩ := R.fzAt hd
    exact ⟨.ref p, hp, k d _ _ h (w.frz p) (.ref p) rfl (w.frz_ke p) R2 r⟩
  · exact h.elim
theorem pp_move {i : Nat} (h : PE X e (tVar i)) : PEo W X e (pMove i) := PE.imp h fun σ H Q ⟨w, e, B, ρ, Q0, E0, R, h, k, x⟩ => by
  subst e
  unfold pMove at h
  split at h
  · rename_i d hd
    obtain ⟨p, hp, R2, o⟩ := R.move hd
    exact ⟨.ref p, hp, k d _ _ h w p rfl (Ke.refl _ _) R2 o⟩
  · exact h.elim
theorem pp_c {v : V} {d : D} (h : PE X e (tC v)) (r : ∀ (w : Wd), Rep X.K X.mg w.Z w.H v d) : PEp W X e (pRet d) := PE.imp h fun σ H Q ⟨w, e, l⟩ => by
  subst e
  exact l.ret (r w)
theorem pp_int {i j pos} : PEp W X (.Constant (.int i) j pos) (pRet (.int i)) := pp_c pe_int fun _ => .int i
theorem pp_bl {i j pos} : PEp W X (.Constant (.bool i) j pos) (pRet (.bl i)) := pp_c pe_bl fun _ => .bl i
theorem pp_non {j pos} : PEp W X (.Constant .none j pos) (pRet .non) := pp_c pe_non fun _ => .non
theorem pp_str {i : Str} {l : List Nat} {j pos} (h : i = sL l := by rfl) : PEp W X (.Constant (.str i) j pos) (pRet (.str l)) := pp_c pe_str fun _ => h ▸ .str l
theorem pp_gint {x : Str} {z : Int} {pos : Pos} (h : ∃ t, X.mg x = some (.int z t)) (hg : Gl X x := by rfl) (hd : (x == ("__debug__" : Str)) = false := by decide) : PEp W X (.Name x pos) (pRet (.int z)) := pp_c (pe_gint h hg hd) fun _ => .int z
theorem pp_gstr {x : Str} {z : Str} {l : List Nat} {pos : Pos} (h : ∃ t, X.mg x = some (.str z t)) (e : z = sL l) (hg : Gl X x := by rfl) (hd : (x == ("__debug__" : Str)) = false := by decide) : PEp W X (.Name x pos) (pRet (.str l)) := pp_c (pe_gstr h hg hd) fun _ => e ▸ .str l
theorem pp_ty {x : Str} {T : String} {pos : Pos} (h : X.mg x = none) (hv : bootBuiltins x = some (.type T) := by decide +kernel) (hg : Gl X x := by rfl) (hn : x ≠ "__name__" := by decide) (hd : (x == ("__debug__" : Str)) = false := by decide) : PEp W X (.Name x pos) (pRet (.ty T)) := pp_c (pe_ty h hv hg hn hd) fun _ => .ty T
theorem pp_op {f : D → D → TEp} {r : R2} {op : Operator} (ho : OpR X (binaryOp op) r) (hf : OpV X.K X.mg f r) (h1 : PEp W X a t1) (h2 : PEp W X b t2) : PEp W X (.BinOp a op b pos) (pBin f t1 t2) := PE.imp (pe_op ho h1 h2) fun σ H Q h => op_lift hf h
theorem po_op {f : D → D → TEp} {r : R2} {op : Operator} (ho : OpR X (binaryOp op) r) (hf : OpVo X.K X.mg f r) (h1 : PEp W X a t1) (h2 : PEp W X b t2) : PEo W X (.BinOp a op b pos) (pBin f t1 t2) := PE.imp (pe_op ho h1 h2) fun σ H Q h => op_lifto hf h
theorem pp_cmp {f : D → D → TEp} {r : R2} {op : CmpOp} (ho : OpR X (compareOp op) r) (hf : OpV X.K X.mg f r) (h1 : PEp W X a t1) (h2 : PEp W X b t2) (hm : behindInMarks op b = false) : PEp W X (.Compare a [op] [b] pos) (pBin f t1 t2) := PE.imp (pe_cmpR ho h1 h2 hm) fun σ H Q h => op_lift hf h
theorem ptp_cmp {f : D → D → TEp} {r : R2} {op : CmpOp} (ho : OpR X (compareOp op) r) (hf : OpV X.K X.mg f r) (h1 : PEp W X a t1) (h2 : PEp W X b t2) (hm : behindInMarks op b = false) : PTp W X (.Compare a [op] [b] pos) (pTst (pBin f t1 t2)) := PT.imp (pt_cmpR ho h1 h2 hm) fun σ H Q h => op_lift hf (tst_lift h)
theorem ptp_val (h : PEp W X e t) (he : ∀ whole, isTrue e X.env whole = (do let v ← whole; standAt e.pos; holding [v] (truthy v)) := by intro _; rfl) : PTp W X e (pTst t) := PT.imp (pt_val h he) fun σ H Q h => tst_lift h
theorem ptp_not (h : PTp W X e tt) : PTp W X (.UnaryOp .Not e pos) (pNotT tt) := PT.imp (pt_not h) fun σ H Q ⟨w, e, B, ρ, Q0, E0, R, h, k, x⟩ => ⟨w, e, B, ρ, _, E0, R, h, fun b ρ' M' q w' e1 k1 R1 => k _ ρ' M' q w' e1 k1 R1, x⟩
abbrev PWp (W : WX) (X : Cx) (e : Expr) (t : TTp) : Prop := PW X e (LT X.K X.mg W t)
theorem pwp_and1 (h : PTp W X a tt) : PWp W X (.BoolOp .And [a] pos) tt := pw_and1 h
theorem pwp_or1 (h : PTp W X a tt) : PWp W X (.BoolOp .Or [a] pos) tt := pw_or1 h
theorem pwp_and {rest : List Expr} (h1 : PTp W X a tt) (h2 : PWp W X (.BoolOp .And (b :: rest) pos) uu) : PWp W X (.BoolOp .And (a :: b :: rest) pos) (pAndT tt uu) := PW.imp (pw_and h1 h2) fun σ H Q h =>
  (LT.bind (t3 := fun ρ M E Q => Q false ρ M) h).mono fun c H1 q => by
    cases c with
    | true => exact q
    | false => exact LT.yes q
theorem pwp_or {rest : List Expr} (h1 : PTp W X a tt) (h2 : PWp W X (.BoolOp .Or (b :: rest) pos) uu) : PWp W X (.BoolOp .Or (a :: b :: rest) pos) (pOrT tt uu) := PW.imp (pw_or h1 h2) fun σ H Q h =>
  (LT.bind (t2 := fun ρ M E Q => Q true ρ M) h).mono fun c H1 q => by
    cases c with
    | true => exact LT.yes q
    | false => exact q
theorem LT.bindE {K : PySem.W.Frag} {mg : Str → Option Value} {σ : L2.St} {H : Hp} {Q : VK} {c : TTp} {t u : TEp} (h : LE K mg W (pIf c t u) σ H Q) : LT K mg W c σ H fun b H1 => if b = true then LE K mg W t σ H1 Q else LE K mg W u σ H1 Q := by
  obtain ⟨w, rfl, B, ρ, Q0, E0, R, h, k, x⟩ := h
  refine ⟨w, rfl, B, ρ, _, E0, R, h, fun b ρ' M' q w' e1 k1 R1 => ?_, x⟩
  subst e1
  split
  · rename_i hb
    rw [if_pos hb] at q
    exact ⟨w', rfl, B, ρ', Q0, E0, R1, q, fun b2 ρ2 M2 q2 w2 v e2 k2 R2 r2 => k b2 ρ2 M2 q2 w2 v e2 (k1.trans k2) R2 r2, x.ke k1⟩
  · rename_i hb
    rw [if_neg hb] at q
    exact ⟨w', rfl, B, ρ', Q0, E0, R1, q, fun b2 ρ2 M2 q2 w2 v e2 k2 R2 r2 => k b2 ρ2 M2 q2 w2 v e2 (k1.trans k2) R2 r2, x.ke k1⟩
theorem pp_ifExp {tc : TTp} (hc : PTp W X c tc) (h1 : PEp W X a t1) (h2 : PEp W X b t2) : PEp W X (.IfExp c a b pos) (pIf tc t1 t2) := PE.imp (pe_ifExp hc h1 h2) fun σ H Q h => LT.bindE h
theorem pp_one {op} (h : PEp W X a t) : PEp W X (.BoolOp op [a] pos) t := pe_one h
theorem pp_and {rest : List Expr} (h1 : PEp W X a t1) (h2 : PEp W X (.BoolOp .And (b :: rest) pos) t2) : PEp W X (.BoolOp .And (a :: b :: rest) pos) (pAndV t1 t2) := PE.imp (pe_and h1 h2) fun σ H Q h =>
  (LE.bind (k := fun d => fun ρ M E Q => ∃ b, d = .bl b ∧ if b = true then t2 ρ M E Q else Q (.bl false) ρ M) h).mono fun x H1 ⟨w1, a, e1, r1, B, ρ, Q0, E0, R, ⟨b, eb, h⟩, k, xx⟩ => by
    subst eb e1
    cases r1
    refine ⟨b, rfl, ?_⟩
    split
    · rename_i hb
      rw [if_pos hb] at h
      exact ⟨w1, rfl, B, ρ, Q0, E0, R, h, k, xx⟩
    · rename_i hb
      rw [if_neg hb] at h
      exact k _ ρ _ h w1 _ rfl (Ke.refl _ _) R (.bl false)
theorem pp_or {rest : List Expr} (h1 : PEp W X a t1) (h2 : PEp W X (.BoolOp .Or (b :: rest) pos) t2) : PEp W X (.BoolOp .Or (a :: b :: rest) pos) (pOrV t1 t2) := PE.imp (pe_or h1 h2) fun σ H Q h =>
  (LE.bind (k := fun d => fun ρ M E Q => ∃ b, d = .bl b ∧ if b = true then Q (.bl true) ρ M else t2 ρ M E Q) h).mono fun x H1 ⟨w1, a, e1, r1, B, ρ, Q0, E0, R, ⟨b, eb, h⟩, k, xx⟩ => by
    subst eb e1
    cases r1
    refine ⟨b, rfl, ?_⟩
    split
    · rename_i hb
      rw [if_pos hb] at h
      exact k _ ρ _ h w1 _ rfl (Ke.refl _ _) R (.bl true)
    · rename_i hb
      rw [if_neg hb] at h
      exact ⟨w1, rfl, B, ρ, Q0, E0, R, h, k, xx⟩
theorem pp_not (h1 : PEp W X a t1) : PEp W X (.UnaryOp .Not a pos) (pNotV t1) := PE.imp (pe_not h1) fun σ H Q h =>
  (LE.bind (k := fun d => fun ρ M E Q => ∃ b, d = .bl b ∧ Q (.bl (!b)) ρ M) h).mono fun x H1 ⟨w1, a, e1, r1, B, ρ, Q0, E0, R, ⟨b, eb, h⟩, k, xx⟩ => by
    subst eb e1
    cases r1
    exact ⟨b, rfl, k _ ρ _ h w1 _ rfl (Ke.refl _ _) R (.bl _)⟩
/-! ### rows of values -/
theorem pap_nil : PAp W X [] pNil := PA.imp pa_nil fun σ H Q ⟨w, e, B, ρ, Q0, E0, R, h, k, x⟩ => e ▸ k _ ρ _ h w [] rfl (Ke.refl _ _) R .nil
theorem pap_cons (h1 : PEp W X e t) (h2 : PAp W X es ta) (hs : starEach (e :: es) X.env = (false, eval e X.env) :: starEach es X.env := by rfl) : PAp W X (e :: es) (pCons t ta) := PA.imp (pa_cons h1 h2 hs) fun σ H Q ⟨w, e, B, ρ, Q0, E0, R, h, k, x⟩ =>
  ⟨w, e, B, ρ, _, E0, R, h, fun a ρ1 M1 q w1 v e1 k1 R1 r1 => ⟨w1, rfl, B, ρ1, _, E0, R1, e1 ▸ q, fun ds ρ2 M2 q2 w2 vs e2 k2 R2 r2 => k _ ρ2 M2 q2 w2 (v :: vs) e2 (k1.trans k2) R2 (.cons (r1.ke k2) r2), x.ke k1⟩, x⟩
def pLst (ta : TAp) : TEp := fun ρ M E Q => ta ρ M E fun ds ρ' M' => ds.length ≤ 16777216 ∧ Q (.lst ds) ρ' M'
def pTup (ta : TAp) : TEp := fun ρ M E Q => ta ρ M E fun ds ρ' M' => ds.length ≤ 16777216 ∧ Q (.tup ds) ρ' M'
theorem po_lst (h : PAp W X es ta) : PEo W X (.List es pos) (pLst ta) := PE.imp (pe_lst h) fun σ H Q ⟨w, e, B, ρ, Q0, E0, R, h, k, x⟩ =>
  ⟨w, e, B, ρ, _, E0, R, h, fun ds ρ1 M1 ⟨hl, q⟩ w1 vs e1 k1 R1 r1 => ⟨by rw [r1.len]; exact hl, LWo.newL (ds := ds) ⟨B, ρ1, Q0, E0, R1, e1 ▸ q, fun d ρ2 M2 q2 w2 v e2 k2 R2 r2 => k d ρ2 M2 q2 w2 v e2 (k1.trans k2) R2 r2, x.ke k1⟩ r1⟩, x⟩
theorem pp_tup {y} (h : PAp W X es ta) : PEp W X (.Tuple es y pos) (pTup ta) := PE.imp (pe_tup h) fun σ H Q ⟨w, e, B, ρ, Q0, E0, R, h, k, x⟩ =>
  ⟨w, e, B, ρ, _, E0, R, h, fun ds ρ1 M1 ⟨hl, q⟩ w1 vs e1 k1 R1 r1 => ⟨by rw [r1.len]; exact hl, LW.newT (ds := ds) ⟨B, ρ1, Q0, E0, R1, e1 ▸ q, fun d ρ2 M2 q2 w2 v e2 k2 R2 r2 => k d ρ2 M2 q2 w2 v e2 (k1.trans k2) R2 r2, x.ke k1⟩ r1⟩, x⟩
/-! ### calls of built-ins, by values -/
def pCB (f : List D → TEp) (ta : TAp) : TEp := fun ρ M E Q => ta ρ M E fun ds ρ' M' => f (ds.map (cn M')) ρ' M' E Q
def Views (K : PySem.W.Frag) (mg : Str → Option Value) (w : Wd) : List V → List D → Prop
  | [], [] => True
  | v :: vs, d :: ds => View K mg w v d ∧ Views K mg w vs ds
  | _, _ => False
theorem Reps.views {K : PySem.W.Frag} {mg : Str → Option Value} {w : Wd} (ok : w.Ok K mg) : ∀ {vs : List V} {ds : List D}, Reps K mg w.Z w.H vs ds → Views K mg w vs (ds.map (cn w.M))
  | _, _, .nil => trivial
  | _, _, .cons r t => ⟨r.view ok, t.views ok⟩
def CaV (K : PySem.W.Frag) (mg : Str → Option Value) (f : List D → TEp) (r : RC) : Prop := ∀ (W : WX) (w : Wd) (σ : L2.St) (vs : List V) (ds : List D) (Q : VK), Views K mg w vs ds → LW K mg W (f ds) w σ Q → r vs w.H Q
def CaVo (K : PySem.W.Frag) (mg : Str → Option Value) (f : List D → TEp) (r : RC) : Prop := ∀ (W : WX) (w : Wd) (σ : L2.St) (vs : List V) (ds : List D) (Q : VK), Views K mg w vs ds → LWo K mg W (f ds) w σ Q → r vs w.H Q
theorem cb_lift {K : PySem.W.Frag} {mg : Str → Option Value} {σ : L2.St} {H : Hp} {Q : VK} {f : List D → TEp} {r : RC} (hf : CaV K mg f r) (h : LE K mg W (pCB f ta) σ H Q) : tCB r (LA K mg W ta) σ H Q := by
  obtain ⟨w, e, B, ρ, Q0, E0, R, h, k, x⟩ := h
  refine ⟨w, e, B, ρ, _, E0, R, h, fun ds ρ1 M1 q w1 vs e1 k1 R1 r1 => ?_, x⟩
  subst e1
  exact hf W w1 σ vs _ Q (r1.views R1.ok) ⟨B, ρ1, Q0, E0, R1, q, fun d ρ2 M2 q2 w2 v e2 k2 R2 r2 => k d ρ2 M2 q2 w2 v e2 (k1.trans k2) R2 r2, x.ke k1⟩
theorem cb_lifto {K : PySem.W.Frag} {mg : Str → Option Value} {σ : L2.St} {H : Hp} {Q : VK} {f : List D → TEp} {r : RC} (hf : CaVo K mg f r) (h : LO K mg W (pCB f ta) σ H Q) : tCB r (LA K mg W ta) σ H Q := by
  obtain ⟨w, e, B, ρ, Q0, E0, R, h, k, x⟩ := h
  refine ⟨w, e, B, ρ, _, E0, R, h, fun ds ρ1 M1 q w1 vs e1 k1 R1 r1 => ?_, x⟩
  subst e1
  exact hf W w1 σ vs _ Q (r1.views R1.ok) ⟨B, ρ1, Q0, E0, R1, q, fun d ρ2 M2 q2 w2 v e2 k2 R2 r2 => k d ρ2 M2 q2 w2 v e2 (k1.trans k2) R2 r2, x.ke k1⟩
end
end CM

/-! the pure layer: operators, built-ins -/
namespace CM
open PySem PySem.Spec PyProof.Rows L2
def pGu (p : Prop) (t : TEp) : TEp := fun ρ M E Q => p ∧ t ρ M E Q
section
variable {K : PySem.W.Frag} {mg : Str → Option Value} {B : Bse} {w : Wd} {W : WX} {σ : L2.St} {H : Hp} {Q : VK}
theorem LW.no (h : LW K mg W pNo w σ Q) : False := by
  obtain ⟨B, ρ, Q0, E0, R, h, _⟩ := h
  exact h
theorem LWo.no (h : LWo K mg W pNo w σ Q) : False := by
  obtain ⟨B, ρ, Q0, E0, R, h, _⟩ := h
  exact h
theorem LW.gu {p : Prop} {t : TEp} (h : LW K mg W (pGu p t) w σ Q) : p ∧ LW K mg W t w σ Q := by
  obtain ⟨B, ρ, Q0, E0, R, ⟨h1, h2⟩, k, x⟩ := h
  exact ⟨h1, B, ρ, Q0, E0, R, h2, k, x⟩
theorem LWo.gu {p : Prop} {t : TEp} (h : LWo K mg W (pGu p t) w σ Q) : p ∧ LWo K mg W t w σ Q := by
  obtain ⟨B, ρ, Q0, E0, R, ⟨h1, h2⟩, k, x⟩ := h
  exact ⟨h1, B, ρ, Q0, E0, R, h2, k, x⟩
/-- something there is, and it goes on -/
def pEx {α : Type} (t : α → TEp) : TEp := fun ρ M E Q => ∃ a, t a ρ M E Q
theorem LW.ex {α : Type} {t : α → TEp} (h : LW K mg W (pEx t) w σ Q) : ∃ a, LW K mg W (t a) w σ Q := by
  obtain ⟨B, ρ, Q0, E0, R, ⟨a, h⟩, k, x⟩ := h
  exact ⟨a, B, ρ, Q0, E0, R, h, k, x⟩
/-- for all of them -/
def pAll {α : Type} (t : α → TEp) : TEp := fun ρ M E Q => ∀ a, t a ρ M E Q
theorem LW.all {α : Type} {t : α → TEp} (h : LW K mg W (pAll t) w σ Q) (a : α) : LW K mg W (t a) w σ Q := by
  obtain ⟨B, ρ, Q0, E0, R, h, k, x⟩ := h
  exact ⟨B, ρ, Q0, E0, R, h a, k, x⟩
def pIm (p : Prop) (t : TEp) : TEp := fun ρ M E Q => p → t ρ M E Q
theorem LW.im {p : Prop} {t : TEp} (h : LW K mg W (pIm p t) w σ Q) (hp : p) : LW K mg W t w σ Q := by
  obtain ⟨B, ρ, Q0, E0, R, h, k, x⟩ := h
  exact ⟨B, ρ, Q0, E0, R, h hp, k, x⟩
theorem tl_str (l : List Nat) : tl (sL l) = l := rfl
/-! ### arithmetic -/
def addD : D → D → TEp
  | .int i, .int j => pRet (.int (i + j))
  | .str a, .str b => pGu (a.length + b.length ≤ 16777216) (pRet (.str (a ++ b)))
  | .lst a, .lst b => pGu (a.length + b.length ≤ 16777216) (pRet (.lst (a ++ b)))
  | _, _ => pNo
theorem v_add : OpV K mg addD rAddF := by
  intro W w σ x y a b Q va vb h
  unfold addD at h
  split at h
  · cases va; cases vb
    exact h.ret (.int _)
  · cases va; cases vb
    obtain ⟨hl, h⟩ := h.gu
    refine ⟨by rw [len_sL, len_sL]; exact hl, ?_⟩
    rw [sL_app]
    exact h.ret (.str _)
  · obtain ⟨p, vs, rfl, hp, r1⟩ := va
    obtain ⟨q, us, rfl, hq, r2⟩ := vb
    obtain ⟨hl, h⟩ := h.gu
    rw [f_add3, hp, hq]
    exact ⟨by rw [r1.len, r2.len]; exact hl, h.of_own.newL (r1.app r2)⟩
  · exact h.no.elim
def addL : D → D → TEp
  | .lst a, .lst b => pGu (a.length + b.length ≤ 16777216) (pRet (.lst (a ++ b)))
  | _, _ => pNo
theorem v_addL : OpVo K mg addL rAddF := by
  intro W w σ x y a b Q va vb h
  unfold addL at h
  split at h
  · obtain ⟨p, vs, rfl, hp, r1⟩ := va
    obtain ⟨q, us, rfl, hq, r2⟩ := vb
    obtain ⟨hl, h⟩ := h.gu
    rw [f_add3, hp, hq]
    exact ⟨by rw [r1.len, r2.len]; exact hl, h.newL (r1.app r2)⟩
  · exact h.no.elim
def iaddD : D → D → TEp
  | .int i, .int j => pRet (.int (i + j))
  | .str a, .str b => pGu (a.length + b.length ≤ 16777216) (pRet (.str (a ++ b)))
  | _, _ => pNo
theorem v_iadd : OpV K mg iaddD rIaddF := by
  intro W w σ x y a b Q va vb h
  unfold iaddD at h
  split at h
  · cases va; cases vb
    exact h.ret (.int _)
  · cases va; cases vb
    obtain ⟨hl, h⟩ := h.gu
    refine ⟨by rw [len_sL, len_sL]; exact hl, ?_⟩
    rw [sL_app]
    exact h.ret (.str _)
  · exact h.no.elim
def subD : D → D → TEp
  | .int i, .int j => pRet (.int (i - j))
  | _, _ => pNo
theorem v_sub : OpV K mg subD rSubF := by
  intro W w σ x y a b Q va vb h
  unfold subD at h
  split at h
  · cases va; cases vb
    exact h.ret (.int _)
  · exact h.no.elim
theorem reps_rep {Z : Addr → Prop} {ds : List D} {vs : List V} (r : Reps K mg Z H vs ds) : ∀ n, Reps K mg Z H (List.replicate n vs).flatten (List.replicate n ds).flatten
  | 0 => .nil
  | n + 1 => by
    rw [List.replicate_succ, List.replicate_succ, List.flatten_cons, List.flatten_cons]
    exact r.app (reps_rep r n)
def mulD : D → D → TEp
  | .int i, .int j => pGu (CMul i j) (pRet (.int (i * j)))
  | .str a, .int j => pGu (0 ≤ j ∧ a.length * j.toNat ≤ 16777216 ∧ j ≤ 16777216) (pRet (.str (repL a j.toNat)))
  | .lst a, .int j => pGu (-(2 ^ 63) ≤ j ∧ j < 2 ^ 63 ∧ a.length * j.toNat ≤ 16777216) (pRet (.lst (List.replicate j.toNat a).flatten))
  | _, _ => pNo
theorem v_mul : OpV K mg mulD rMulF := by
  intro W w σ x y a b Q va vb h
  unfold mulD at h
  split at h
  · cases va; cases vb
    obtain ⟨hl, h⟩ := h.gu
    exact ⟨hl, h.ret (.int _)⟩
  · cases va; cases vb
    obtain ⟨⟨h1, h2, h3⟩, h⟩ := h.gu
    exact ⟨h1, by rw [len_sL]; exact h2, h3, h.ret (.str _)⟩
  · obtain ⟨p, vs, rfl, hp, r1⟩ := va
    cases vb
    obtain ⟨⟨h1, h2, h3⟩, h⟩ := h.gu
    rw [f_mul3, hp]
    exact ⟨h1, h2, by rw [r1.len]; exact h3, h.of_own.newL (reps_rep r1 _)⟩
  · exact h.no.elim
def fdivD : D → D → TEp
  | .int i, .int j => pGu (CDiv i j) (pRet (.int (i / j)))
  | _, _ => pNo
theorem v_fdiv : OpV K mg fdivD rFdivF := by
  intro W w σ x y a b Q va vb h
  unfold fdivD at h
  split at h
  · cases va; cases vb
    obtain ⟨hl, h⟩ := h.gu
    exact ⟨hl, h.ret (.int _)⟩
  · exact h.no.elim
def modD : D → D → TEp
  | .int i, .int j => pGu (0 < j) (pRet (.int (i % j)))
  | _, _ => pNo
theorem v_mod : OpV K mg modD rModF := by
  intro W w σ x y a b Q va vb h
  unfold modD at h
  split at h
  · cases va; cases vb
    obtain ⟨hl, h⟩ := h.gu
    exact ⟨hl, h.ret (.int _)⟩
  · exact h.no.elim
def powD : D → D → TEp
  | .int i, .int j => pGu (CPow i j) (pRet (.int (i ^ j.toNat)))
  | _, _ => pNo
theorem v_pow : OpV K mg powD rPowF := by
  intro W w σ x y a b Q va vb h
  unfold powD at h
  split at h
  · cases va; cases vb
    obtain ⟨hl, h⟩ := h.gu
    exact ⟨hl, h.ret (.int _)⟩
  · exact h.no.elim
/-! ### comparisons -/
def ltD : D → D → TEp
  | .int i, .int j => pRet (.bl (decide (i < j)))
  | _, _ => pNo
theorem v_lt : OpV K mg ltD rLtF := by
  intro W w σ x y a b Q va vb h
  unfold ltD at h
  split at h
  · cases va; cases vb
    exact h.ret (.bl _)
  · exact h.no.elim
def leD : D → D → TEp
  | .int i, .int j => pRet (.bl (decide (i ≤ j)))
  | _, _ => pNo
theorem v_le : OpV K mg leD rLeF := by
  intro W w σ x y a b Q va vb h
  unfold leD at h
  split at h
  · cases va; cases vb
    exact h.ret (.bl _)
  · exact h.no.elim
def gtD : D → D → TEp
  | .int i, .int j => pRet (.bl (decide (j < i)))
  | _, _ => pNo
theorem v_gt : OpV K mg gtD rGtF := by
  intro W w σ x y a b Q va vb h
  unfold gtD at h
  split at h
  · cases va; cases vb
    exact h.ret (.bl _)
  · exact h.no.elim
def geD : D → D → TEp
  | .int i, .int j => pRet (.bl (decide (j ≤ i)))
  | _, _ => pNo
theorem v_ge : OpV K mg geD rGeF := by
  intro W w σ x y a b Q va vb h
  unfold geD at h
  split at h
  · cases va; cases vb
    exact h.ret (.bl _)
  · exact h.no.elim
end
/-! ### data: ==, in -/
mutual
def toPy : D → PyData
  | .non => .none
  | .bl b => .bool b
  | .int i => .int i
  | .str l => .str (sL l)
  | .lst ds => .list (toPys ds)
  | .tup ds => .tuple (toPys ds)
  | _ => .dict []
def toPys : List D → List PyData
  | [] => []
  | d :: ds => toPy d :: toPys ds
end
def plain : Nat → D → Bool
  | _, .non => true
  | _, .bl _ => true
  | _, .int _ => true
  | _, .str l => l.all fun c => decide (c < 1114112)
  | n + 1, .lst ds => ds.all (plain n)
  | n + 1, .tup ds => ds.all (plain n)
  | _, _ => false
def eqD (a b : D) : Bool := PyData.eqv (toPy a) (toPy b)
def eqDs (a b : List D) : Bool := PyData.eqvAll (toPys a) (toPys b)
theorem toPys_eq : ∀ ds : List D, toPys ds = ds.map toPy
  | [] => rfl
  | d :: ds => by rw [toPys, toPys_eq ds, List.map_cons]
theorem plain_ok : ∀ (n : Nat) (d : D), plain n d = true → okD n (toPy d)
  | n, .non, _ => ok_none n
  | n, .bl b, _ => ok_bool n b
  | n, .int i, _ => ok_int n i
  | n, .str l, h => ⟨by
      have h : (l.all fun c => decide (c < 1114112)) = true := by cases n <;> exact h
      simp only [toPy, PyData.canLay0, PyData.strOk]
      simpa using h, by simp [toPy, PyData.depth]⟩
  | n + 1, .lst ds, h => by
    have h : ds.all (plain n) = true := h
    rw [toPy, toPys_eq]
    refine ok_list fun e he => ?_
    obtain ⟨d, hd, rfl⟩ := List.mem_map.mp he
    exact plain_ok n d (List.all_eq_true.mp h d hd)
  | n + 1, .tup ds, h => by
    have h : ds.all (plain n) = true := h
    rw [toPy, toPys_eq]
    refine ok_tup fun e he => ?_
    obtain ⟨d, hd, rfl⟩ := List.mem_map.mp he
    exact plain_ok n d (List.all_eq_true.mp h d hd)
  | 0, .lst ds, h => by cases h
  | 0, .tup ds, h => by cases h
  | n, .ty _, h => by cases n <;> cases h
  | n, .fn _, h => by cases n <;> cases h
  | n, .ref _, h => by cases n <;> cases h
  | n, .dK _, h => by cases n <;> cases h
  | n, .dT _, h => by cases n <;> cases h
  | n, .obj _ _, h => by cases n <;> cases h
  | n, .exc _ _ _ _, h => by cases n <;> cases h
  | n, .scr _, h => by cases n <;> cases h
  | n, .lam _ _ _, h => by cases n <;> cases h
  | n, .clo _ _ _ _, h => by cases n <;> cases h
  | n, .tbl _, h => by cases n <;> cases h
theorem sqT_of {K : PySem.W.Frag} {H : Hp} {a : Addr} {vs : List V} (h : H a = some (.tup vs) ∨ WrT K a vs) : SqT K H a vs := h.elim SqT.of fun h => .inr h.1
section
variable {K : PySem.W.Frag} {mg : Str → Option Value} {Z : Addr → Prop} {H : Hp} {w : Wd}
mutual
theorem Rep.dp : ∀ {n : Nat} {v : V} {d : D}, Rep K mg Z H v d → plain n d = true → Dp K H v (toPy d)
  | _, _, _, .non, _ => .non
  | _, _, _, .bl b, _ => .bl b
  | _, _, _, .int i, _ => .int i
  | _, _, _, .str l, _ => .str _
  | n + 1, _, .lst ds, .lst z h r, p => .lst (SqL.of h) (Reps.dp r (n := n) p)
  | n + 1, _, .tup ds, .tup h r, p => .tup (SqT.of h) (Reps.dp r (n := n) p)
  | n + 1, _, .tup ds, .tupK h r, p => .tup (.inr h.1) (Reps.dp r (n := n) p)
  | 0, _, .lst ds, .lst z h r, p => by cases p
  | 0, _, .tup ds, .tup h r, p => by cases p
  | 0, _, .tup ds, .tupK h r, p => by cases p
  | n, _, .ty _, .ty _, p => by cases n <;> cases p
  | n, _, .fn _, .fn _ _, p => by cases n <;> cases p
  | n, _, .ref _, .ref _, p => by cases n <;> cases p
  | n, _, .dK _, .dK _ _ _ _, p => by cases n <;> cases p
  | n, _, .dT _, .dT _ _ _ _, p => by cases n <;> cases p
  | n, _, .obj _ _, .obj _ _ _ _ _, p => by cases n <;> cases p
  | n, _, .exc _ _ _ _, .exc _ _ _, p => by cases n <;> cases p
  | n, _, .scr _, .scr _, p => by cases n <;> cases p
  | n, _, .lam _ _ _, .lam _ _, p => by cases n <;> cases p
  | n, _, .clo _ _ _ _, .clo _ _ _ _, p => by cases n <;> cases p
  | n, _, .tbl _, .tbl _ _, p => by cases n <;> cases p
theorem Reps.dp : ∀ {n : Nat} {vs : List V} {ds : List D}, Reps K mg Z H vs ds → ds.all (plain n) = true → DpAll K H vs (toPys ds)
  | _, _, _, .nil, _ => .nil
  | n, _, _, .cons r t, p => by
    rw [List.all_cons, Bool.and_eq_true] at p
    exact .cons (Rep.dp r p.1) (Reps.dp t p.2)
end
theorem View.dp {n : Nat} {v : V} {d : D} (h : View K mg w v d) (p : plain n d = true) : Dp K w.H v (toPy d) := by
  cases d with
  | non => cases h; exact .non
  | bl b => cases h; exact .bl b
  | int i => cases h; exact .int i
  | str l => cases h; exact .str _
  | lst ds =>
    obtain ⟨a, vs, rfl, h, r⟩ := h
    cases n with
    | zero => cases p
    | succ n => exact .lst (SqL.of h) (r.dp (n := n) p)
  | tup ds =>
    obtain ⟨a, vs, rfl, h, r⟩ := h
    cases n with
    | zero => cases p
    | succ n => exact .tup (sqT_of h) (r.dp (n := n) p)
  | _ => cases n <;> cases p
end
def eqR (neg : Bool) : D → D → TEp
  | .int i, .int j => pRet (.bl (xor neg (decide (i = j))))
  | .str a, .str b => pRet (.bl (xor neg (decide (a = b))))
  | .dK [], .dK [] => pRet (.bl (xor neg true))
  | a, b => pGu (plain 12 a = true ∧ plain 12 b = true) (pRet (.bl (xor neg (eqD a b))))
def rEqP (K : PySem.W.Frag) (neg : Bool) : R2 := fun x y H Q => SD K neg x y H Q .mk ∨ (∃ i j : Int, x = .int i ∧ y = .int j ∧ Q (.bl (xor neg (decide (i = j)))) H) ∨ (∃ a b : Str, x = .str a ∧ y = .str b ∧ Q (.bl (xor neg (decide (a = b)))) H) ∨ ∃ a b, x = .ref a ∧ y = .ref b ∧ Rd H a (.dK []) ∧ Rd H b (.dK []) ∧ Q (.bl (xor neg true)) H
theorem op_eq0 {X : Cx} (hu : X.A.units < cLine) : OpR X (compareOp .Eq) (fun x y H Q => ∃ a b, x = .ref a ∧ y = .ref b ∧ Rd H a (.dK []) ∧ Rd H b (.dK []) ∧ Q (.bl true) H) := by
  intro pins s σ H x y v u Q I rx ry h
  obtain ⟨a, b, rfl, rfl, ea, eb, q⟩ := h
  cases rx
  cases ry
  obtain ⟨_, ya, va, ra, da⟩ := ea.ok I.hok
  obtain ⟨_, yb, vb, rb, db⟩ := eb.ok I.hok
  cases ra
  cases rb
  exact PySem.W.keq_eq (knd := mixKind X.prog X.w) (r := true) ya yb da db hu (fun _ => hits_all .nil .nil (fun p hp => by cases hp)) (fin_bl I q (by simp))
theorem op_ne0 {X : Cx} (hu : X.A.units < cLine) : OpR X (compareOp .NotEq) (fun x y H Q => ∃ a b, x = .ref a ∧ y = .ref b ∧ Rd H a (.dK []) ∧ Rd H b (.dK []) ∧ Q (.bl false) H) := by
  intro pins s σ H x y v u Q I rx ry h
  obtain ⟨a, b, rfl, rfl, ea, eb, q⟩ := h
  cases rx
  cases ry
  obtain ⟨_, ya, va, ra, da⟩ := ea.ok I.hok
  obtain ⟨_, yb, vb, rb, db⟩ := eb.ok I.hok
  cases ra
  cases rb
  exact PySem.W.keq_ne (knd := mixKind X.prog X.w) (r := true) ya yb da db hu (fun _ => hits_all .nil .nil (fun p hp => by cases hp)) (fin_bl I q (by simp))
section
variable {X : Cx}
theorem op_eqP {K : PySem.W.Frag} (hu : X.A.units + 64 < cLine) (hK : X.K = K := by rfl) : OpR X (compareOp .Eq) (rEqP K false) := hK ▸ opImp (L2.OpR.or (L2.OpR.or (op_eqD hu) op_eqF) (op_eq0 (by omega))) fun x y H Q h => by
  rcases h with ⟨d, e, h1, h2, h3, h4, h5⟩ | ⟨i, j, rfl, rfl, h⟩ | ⟨i, j, rfl, rfl, h⟩ | ⟨a, b, h1, h2, h3, h4, h5⟩
  · exact .inl (.inl ⟨d, e, h1, h2, h3, h4, by simpa using h5⟩)
  · exact .inl (.inr (by rw [f_eq1]; simpa using h))
  · exact .inl (.inr (by rw [f_eq2]; simpa using h))
  · exact .inr ⟨a, b, h1, h2, h3, h4, by simpa using h5⟩
theorem op_neP {K : PySem.W.Frag} (hu : X.A.units + 64 < cLine) (hK : X.K = K := by rfl) : OpR X (compareOp .NotEq) (rEqP K true) := hK ▸ opImp (L2.OpR.or (L2.OpR.or (op_neD hu) op_neF) (op_ne0 (by omega))) fun x y H Q h => by
  rcases h with ⟨d, e, h1, h2, h3, h4, h5⟩ | ⟨i, j, rfl, rfl, h⟩ | ⟨i, j, rfl, rfl, h⟩ | ⟨a, b, h1, h2, h3, h4, h5⟩
  · exact .inl (.inl ⟨d, e, h1, h2, h3, h4, by simpa using h5⟩)
  · exact .inl (.inr (by rw [f_ne1]; simpa using h))
  · exact .inl (.inr (by rw [f_ne2]; simpa using h))
  · exact .inr ⟨a, b, h1, h2, h3, h4, by simpa using h5⟩
end
theorem sL_eq {a b : List Nat} : decide (sL a = sL b) = decide (a = b) := by
  by_cases h : a = b
  · subst h; simp
  · rw [decide_eq_false h, decide_eq_false (fun e => h (sL_inj e))]
theorem v_eq {K : PySem.W.Frag} {mg : Str → Option Value} {neg : Bool} : OpV K mg (eqR neg) (rEqP K neg) := by
  intro W w σ x y a b Q va vb h
  unfold eqR at h
  split at h
  · cases va; cases vb
    exact .inr (.inl ⟨_, _, rfl, rfl, h.ret (.bl _)⟩)
  · cases va; cases vb
    exact .inr (.inr (.inl ⟨_, _, rfl, rfl, by rw [sL_eq]; exact h.ret (.bl _)⟩))
  · obtain ⟨p, kvs, rfl, hp, e1, r1⟩ := va
    obtain ⟨q, lvs, rfl, hq, e2, r2⟩ := vb
    have z1 : kvs = [] := List.map_eq_nil_iff.mp e1
    have z2 : lvs = [] := List.map_eq_nil_iff.mp e2
    subst z1 z2
    exact .inr (.inr (.inr ⟨_, _, rfl, rfl, hp, hq, h.ret (.bl _)⟩))
  · obtain ⟨⟨p1, p2⟩, h⟩ := h.gu
    exact .inl ⟨_, _, va.dp p1, vb.dp p2, (plain_ok _ _ p1).shaped (by decide), (plain_ok _ _ p2).shaped (by decide), h.ret (.bl _)⟩
/-- x in y -/
def inD (neg : Bool) : D → D → TEp
  | .str a, .str z => pEx fun c => pGu (a = [c]) (pRet (.bl (xor neg (decide (c ∈ z)))))
  | d, .lst ds => pGu (plain 12 d = true ∧ ds.all (plain 11) = true) (pRet (.bl (xor neg (ds.any fun z => eqD z d))))
  | _, _ => pNo
def rInP (K : PySem.W.Frag) (neg : Bool) : R2 := fun x y H Q => (∃ c z, x = .str (sL [c]) ∧ y = .str (sL z) ∧ Q (.bl (xor neg (decide (c ∈ z)))) H) ∨ ∃ d ds, Dp K H x d ∧ Dp K H y (.list ds) ∧ SeqAt.shaped d = true ∧ SeqAt.shaped (.list ds) = true ∧ Q (.bl (xor neg (ds.any fun z => PyData.eqv z d))) H
section
variable {X : Cx}
theorem op_inP {K : PySem.W.Frag} (hu : X.A.units + 65 < cLine) (hK : X.K = K := by rfl) : OpR X (compareOp .In) (rInP K false) := hK ▸ opImp (L2.OpR.or op_in_sign (op_inD hu)) fun x y H Q h => by
  rcases h with ⟨c, z, rfl, rfl, q⟩ | ⟨d, ds, h1, h2, h3, h4, q⟩
  · exact .inl ⟨c, _, rfl, rfl, by simpa using q⟩
  · exact .inr ⟨d, ds, h1, h2, h3, h4, by simpa using q⟩
theorem op_notInP {K : PySem.W.Frag} (hu : X.A.units + 65 < cLine) (hK : X.K = K := by rfl) : OpR X (compareOp .NotIn) (rInP K true) := hK ▸ opImp (L2.OpR.or op_notIn_sign (op_notInD hu)) fun x y H Q h => by
  rcases h with ⟨c, z, rfl, rfl, q⟩ | ⟨d, ds, h1, h2, h3, h4, q⟩
  · exact .inl ⟨c, _, rfl, rfl, by simpa using q⟩
  · exact .inr ⟨d, ds, h1, h2, h3, h4, by simpa using q⟩
end
theorem any_toPy (d : D) : ∀ ds : List D, (toPys ds).any (fun z => PyData.eqv z (toPy d)) = ds.any fun z => eqD z d
  | [] => rfl
  | e :: ds => by rw [toPys, List.any_cons, List.any_cons, any_toPy d ds]; rfl
theorem v_in {K : PySem.W.Frag} {mg : Str → Option Value} {neg : Bool} : OpV K mg (inD neg) (rInP K neg) := by
  intro W w σ x y a b Q va vb h
  unfold inD at h
  split at h
  · cases va; cases vb
    obtain ⟨c, h⟩ := h.ex
    obtain ⟨e, h'⟩ := h.gu
    subst e
    have h := h'
    exact .inl ⟨c, _, rfl, rfl, h.ret (.bl _)⟩
  · rename_i ds
    obtain ⟨⟨p1, p2⟩, h⟩ := h.gu
    refine .inr ⟨_, toPys ds, va.dp p1, vb.dp (n := 12) p2, (plain_ok _ _ p1).shaped (by decide), (plain_ok 12 (.lst ds) p2).shaped (by decide), ?_⟩
    rw [any_toPy]
    exact h.ret (.bl _)
  · exact h.no.elim
/-! ### is -/
def isNon : D → Bool
  | .non => true
  | _ => false
def isN (neg : Bool) : D → D → TEp
  | a, .non => pGu (∀ p, a ≠ .ref p) (pRet (.bl (xor neg (isNon a))))
  | _, _ => pNo
theorem view_non {K : PySem.W.Frag} {mg : Str → Option Value} {w : Wd} {v : V} {a : D} (h : View K mg w v a) : decide (v = .non) = (isNon a) := by
  cases a with
  | non => cases h; rfl
  | bl b => cases h; rfl
  | int i => cases h; rfl
  | str l => cases h; rfl
  | ty n => cases h; rfl
  | ref p => cases h; rfl
  | fn x => obtain ⟨_, rfl, _⟩ := h; rfl
  | lst ds => obtain ⟨_, _, rfl, _⟩ := h; rfl
  | tup ds => obtain ⟨_, _, rfl, _⟩ := h; rfl
  | dK ds => obtain ⟨_, _, rfl, _⟩ := h; rfl
  | dT ds => obtain ⟨_, _, rfl, _⟩ := h; rfl
  | obj C fs => obtain ⟨_, _, _, _, rfl, _⟩ := h; rfl
  | exc a dd c g => cases h; rfl
  | scr ns => obtain ⟨_, rfl, _⟩ := h; rfl
  | lam L f cl => cases h; rfl
  | clo L f w ds => cases h; rfl
  | tbl q => obtain ⟨_, rfl⟩ := h; rfl
def rIsNP (neg : Bool) : R2 := fun v x H Q => x = .non ∧ Q (.bl (xor neg (decide (v = .non)))) H
section
variable {X : Cx}
theorem op_isNP : OpR X (compareOp .Is) (rIsNP false) := opImp op_isN1 fun x y H Q ⟨h1, h2⟩ => ⟨h1, by simpa using h2⟩
theorem op_notNP : OpR X (compareOp .IsNot) (rIsNP true) := opImp op_notN1 fun x y H Q ⟨h1, h2⟩ => ⟨h1, by simpa using h2⟩
end
theorem v_isN {K : PySem.W.Frag} {mg : Str → Option Value} {neg : Bool} : OpV K mg (isN neg) (rIsNP neg) := by
  intro W w σ x y a b Q va vb h
  unfold isN at h
  split at h
  · cases vb
    obtain ⟨_, h⟩ := h.gu
    refine ⟨rfl, ?_⟩
    rw [view_non va]
    exact h.ret (.bl _)
  · exact h.no.elim
def isB (neg : Bool) : D → D → TEp
  | .bl a, .bl b => pRet (.bl (xor neg (decide (a = b))))
  | _, _ => pNo
def rIsBP (neg : Bool) : R2 := fun v x H Q => ∃ a b : Bool, v = .bl a ∧ x = .bl b ∧ Q (.bl (xor neg (decide (a = b)))) H
section
variable {X : Cx}
theorem op_isBP : OpR X (compareOp .Is) (rIsBP false) := opImp op_isBl fun x y H Q ⟨a, b, h1, h2, h3⟩ => ⟨a, b, h1, h2, by simpa using h3⟩
theorem op_notBP : OpR X (compareOp .IsNot) (rIsBP true) := opImp op_notBl fun x y H Q ⟨a, b, h1, h2, h3⟩ => ⟨a, b, h1, h2, by simpa using h3⟩
end
theorem v_isB {K : PySem.W.Frag} {mg : Str → Option Value} {neg : Bool} : OpV K mg (isB neg) (rIsBP neg) := by
  intro W w σ x y a b Q va vb h
  unfold isB at h
  split at h
  · cases va; cases vb
    exact ⟨_, _, rfl, rfl, h.ret (.bl _)⟩
  · exact h.no.elim
end CM

/-! the pure layer: built-ins, places, methods -/
namespace CM
open PySem PySem.Spec PyProof.Rows L2
/-! ### rows of plain things -/
def dInts : List D → Option (List Int)
  | [] => some []
  | .int i :: r => (dInts r).map (i :: ·)
  | _ :: _ => none
def dBools : List D → Option (List Bool)
  | [] => some []
  | .bl i :: r => (dBools r).map (i :: ·)
  | _ :: _ => none
def dStrs : List D → Option (List (List Nat))
  | [] => some []
  | .str i :: r => (dStrs r).map (i :: ·)
  | _ :: _ => none
theorem dInts_map {α : Type} (f : α → Int) : ∀ l : List α, dInts (l.map fun x => .int (f x)) = some (l.map f)
  | [] => rfl
  | a :: l => by
    show (dInts (l.map fun x => .int (f x))).map (f a :: ·) = _
    rw [dInts_map f l]; rfl
theorem dInts_id (l : List Int) : dInts (l.map D.int) = some l := by simpa using dInts_map id l
theorem dBools_map {α : Type} (f : α → Bool) : ∀ l : List α, dBools (l.map fun x => .bl (f x)) = some (l.map f)
  | [] => rfl
  | a :: l => by
    show (dBools (l.map fun x => .bl (f x))).map (f a :: ·) = _
    rw [dBools_map f l]; rfl
theorem dStrs_map {α : Type} (f : α → List Nat) : ∀ l : List α, dStrs (l.map fun x => .str (f x)) = some (l.map f)
  | [] => rfl
  | a :: l => by
    show (dStrs (l.map fun x => .str (f x))).map (f a :: ·) = _
    rw [dStrs_map f l]; rfl
theorem dBools_id (l : List Bool) : dBools (l.map D.bl) = some l := by simpa using dBools_map id l
theorem dStrs_id (l : List (List Nat)) : dStrs (l.map D.str) = some l := by simpa using dStrs_map id l
section
variable {K : PySem.W.Frag} {mg : Str → Option Value} {Z : Addr → Prop} {H : Hp}
theorem reps_ints : ∀ {vs : List V} {ds : List D} {ns : List Int}, Reps K mg Z H vs ds → dInts ds = some ns → vs = ns.map V.int
  | _, [], _, .nil, h => by cases h; rfl
  | _, .int i :: r, _, .cons q t, h => by
    have h : (dInts r).map (i :: ·) = some _ := h
    cases q
    cases e : dInts r with
    | none => rw [e] at h; cases h
    | some ms =>
      rw [e] at h; cases h
      rw [reps_ints t e]; rfl
  | _, .non :: _, _, .cons _ _, h => by cases h
  | _, .bl _ :: _, _, .cons _ _, h => by cases h
  | _, .str _ :: _, _, .cons _ _, h => by cases h
  | _, .ty _ :: _, _, .cons _ _, h => by cases h
  | _, .fn _ :: _, _, .cons _ _, h => by cases h
  | _, .ref _ :: _, _, .cons _ _, h => by cases h
  | _, .lst _ :: _, _, .cons _ _, h => by cases h
  | _, .tup _ :: _, _, .cons _ _, h => by cases h
  | _, .dK _ :: _, _, .cons _ _, h => by cases h
  | _, .dT _ :: _, _, .cons _ _, h => by cases h
  | _, .obj _ _ :: _, _, .cons _ _, h => by cases h
  | _, .exc _ _ _ _ :: _, _, .cons _ _, h => by cases h
  | _, .scr _ :: _, _, .cons _ _, h => by cases h
  | _, .lam _ _ _ :: _, _, .cons _ _, h => by cases h
  | _, .clo _ _ _ _ :: _, _, .cons _ _, h => by cases h
  | _, .tbl _ :: _, _, .cons _ _, h => by cases h
theorem reps_bools : ∀ {vs : List V} {ds : List D} {ns : List Bool}, Reps K mg Z H vs ds → dBools ds = some ns → vs = ns.map V.bl
  | _, [], _, .nil, h => by cases h; rfl
  | _, .bl i :: r, _, .cons q t, h => by
    have h : (dBools r).map (i :: ·) = some _ := h
    cases q
    cases e : dBools r with
    | none => rw [e] at h; cases h
    | some ms =>
      rw [e] at h; cases h
      rw [reps_bools t e]; rfl
  | _, .non :: _, _, .cons _ _, h => by cases h
  | _, .int _ :: _, _, .cons _ _, h => by cases h
  | _, .str _ :: _, _, .cons _ _, h => by cases h
  | _, .ty _ :: _, _, .cons _ _, h => by cases h
  | _, .fn _ :: _, _, .cons _ _, h => by cases h
  | _, .ref _ :: _, _, .cons _ _, h => by cases h
  | _, .lst _ :: _, _, .cons _ _, h => by cases h
  | _, .tup _ :: _, _, .cons _ _, h => by cases h
  | _, .dK _ :: _, _, .cons _ _, h => by cases h
  | _, .dT _ :: _, _, .cons _ _, h => by cases h
  | _, .obj _ _ :: _, _, .cons _ _, h => by cases h
  | _, .exc _ _ _ _ :: _, _, .cons _ _, h => by cases h
  | _, .scr _ :: _, _, .cons _ _, h => by cases h
  | _, .lam _ _ _ :: _, _, .cons _ _, h => by cases h
  | _, .clo _ _ _ _ :: _, _, .cons _ _, h => by cases h
  | _, .tbl _ :: _, _, .cons _ _, h => by cases h
theorem reps_strs : ∀ {vs : List V} {ds : List D} {ns : List (List Nat)}, Reps K mg Z H vs ds → dStrs ds = some ns → vs = ns.map fun l => V.str (sL l)
  | _, [], _, .nil, h => by cases h; rfl
  | _, .str i :: r, _, .cons q t, h => by
    have h : (dStrs r).map (i :: ·) = some _ := h
    cases q
    cases e : dStrs r with
    | none => rw [e] at h; cases h
    | some ms =>
      rw [e] at h; cases h
      rw [reps_strs t e]; rfl
  | _, .non :: _, _, .cons _ _, h => by cases h
  | _, .bl _ :: _, _, .cons _ _, h => by cases h
  | _, .int _ :: _, _, .cons _ _, h => by cases h
  | _, .ty _ :: _, _, .cons _ _, h => by cases h
  | _, .fn _ :: _, _, .cons _ _, h => by cases h
  | _, .ref _ :: _, _, .cons _ _, h => by cases h
  | _, .lst _ :: _, _, .cons _ _, h => by cases h
  | _, .tup _ :: _, _, .cons _ _, h => by cases h
  | _, .dK _ :: _, _, .cons _ _, h => by cases h
  | _, .dT _ :: _, _, .cons _ _, h => by cases h
  | _, .obj _ _ :: _, _, .cons _ _, h => by cases h
  | _, .exc _ _ _ _ :: _, _, .cons _ _, h => by cases h
  | _, .scr _ :: _, _, .cons _ _, h => by cases h
  | _, .lam _ _ _ :: _, _, .cons _ _, h => by cases h
  | _, .clo _ _ _ _ :: _, _, .cons _ _, h => by cases h
  | _, .tbl _ :: _, _, .cons _ _, h => by cases h
theorem reps_of_strs : ∀ l : List (List Nat), Reps K mg Z H (l.map fun x => V.str (sL x)) (l.map D.str)
  | [] => .nil
  | a :: l => .cons (.str a) (reps_of_strs l)
theorem reps_of_ints : ∀ l : List Int, Reps K mg Z H (l.map V.int) (l.map D.int)
  | [] => .nil
  | a :: l => .cons (.int a) (reps_of_ints l)
theorem Reps.atI {vs : List V} {ds : List D} {i : Int} {d : D} (r : Reps K mg Z H vs ds) (h : atI ds i = some d) : ∃ v, L2.atI vs i = some v ∧ Rep K mg Z H v d := by
  unfold L2.atI at h ⊢
  rw [r.len]
  cases e : ixN ds.length i with
  | none => rw [e] at h; cases h
  | some j =>
    rw [e] at h
    exact r.get h
end
def maxI : List Int → Int
  | [] => 0
  | [a] => a
  | a :: b :: r => max a (maxI (b :: r))
def minI : List Int → Int
  | [] => 0
  | [a] => a
  | a :: b :: r => min a (minI (b :: r))
theorem maxI_spec : ∀ {l : List Int}, l ≠ [] → maxI l ∈ l ∧ ∀ y ∈ l, y ≤ maxI l
  | [a], _ => ⟨List.mem_singleton.mpr rfl, fun y hy => by rw [List.mem_singleton.mp hy]; exact Int.le_refl _⟩
  | a :: b :: r, _ => by
    obtain ⟨h1, h2⟩ := maxI_spec (l := b :: r) (by simp)
    show max a (maxI (b :: r)) ∈ _ ∧ ∀ y ∈ _, y ≤ max a (maxI (b :: r))
    refine ⟨?_, fun y hy => ?_⟩
    · by_cases h : a ≤ maxI (b :: r)
      · rw [Int.max_eq_right h]; exact List.mem_cons_of_mem _ h1
      · rw [Int.max_eq_left (by omega)]; exact List.mem_cons_self ..
    · rcases List.mem_cons.mp hy with rfl | hy
      · omega
      · have := h2 y hy; omega
theorem minI_spec : ∀ {l : List Int}, l ≠ [] → minI l ∈ l ∧ ∀ y ∈ l, minI l ≤ y
  | [a], _ => ⟨List.mem_singleton.mpr rfl, fun y hy => by rw [List.mem_singleton.mp hy]; exact Int.le_refl _⟩
  | a :: b :: r, _ => by
    obtain ⟨h1, h2⟩ := minI_spec (l := b :: r) (by simp)
    show min a (minI (b :: r)) ∈ _ ∧ ∀ y ∈ _, min a (minI (b :: r)) ≤ y
    refine ⟨?_, fun y hy => ?_⟩
    · by_cases h : a ≤ minI (b :: r)
      · rw [Int.min_eq_left h]; exact List.mem_cons_self ..
      · rw [Int.min_eq_right (by omega)]; exact List.mem_cons_of_mem _ h1
    · rcases List.mem_cons.mp hy with rfl | hy
      · omega
      · have := h2 y hy; omega
/-- the figures of a number -/
def numS (i : Int) : List Nat := tl (toString i : Str)
theorem numS_nat (n : Nat) : numS (n : Int) = TL.numL n := by
  unfold numS
  rw [toS]
theorem sL_numS (i : Int) : (toString i : Str) = sL (numS i) := (sL_tl _).symm
def tyD : D → Option String
  | .non => some "NoneType"
  | .bl _ => some "bool"
  | .int _ => some "int"
  | .str _ => some "str"
  | .lst _ => some "list"
  | .tup _ => some "tuple"
  | .dK _ => some "dict"
  | _ => none
def pOpt {α : Type} (o : Option α) (t : α → TEp) : TEp := match o with
  | some a => t a
  | none => pNo
/-! ### built-ins -/
def lenD : List D → TEp
  | [.str l] => pGu (l.length ≤ 16777216) (pRet (.int l.length))
  | [.lst ds] => pRet (.int ds.length)
  | [.tup ds] => pRet (.int ds.length)
  | _ => pNo
def absD : List D → TEp
  | [.int i] => pRet (.int (if i < 0 then -i else i))
  | _ => pNo
def maxD : List D → TEp
  | [.int i, .int j] => pRet (.int (if j > i then j else i))
  | [.lst ds] => pOpt (dInts ds) fun ns => pGu (ns ≠ []) (pRet (.int (maxI ns)))
  | _ => pNo
def minD : List D → TEp
  | [.int i, .int j] => pRet (.int (if j < i then j else i))
  | [.lst ds] => pOpt (dInts ds) fun ns => pGu (ns ≠ []) (pRet (.int (minI ns)))
  | _ => pNo
def sumD : List D → TEp
  | [.lst ds] => pOpt (dInts ds) fun ns => pRet (.int ns.sum)
  | _ => pNo
def allD : List D → TEp
  | [.lst ds] => pOpt (dBools ds) fun ns => pRet (.bl (ns.all id))
  | _ => pNo
def intD : List D → TEp
  | [.int i] => pRet (.int i)
  | [.bl b] => pRet (.int (if b then 1 else 0))
  | [.str l] => pOpt (PySem.intText? (sL l)) fun n => pGu (l.length ≤ 640) (pRet (.int n))
  | _ => pNo
def strD : List D → TEp
  | [.int i] => pGu (i.natAbs.log2 < 1920) (pRet (.str (numS i)))
  | _ => pNo
def isiD : List D → TEp
  | [x, .ty U] => pOpt (tyD x) fun T => pGu (okTy U = true) (pRet (.bl (subTy T U)))
  | _ => pNo
def listD : List D → TEp
  | [.lst ds] => pRet (.lst ds)
  | [.scr ns] => pRet (.lst (ns.map D.int))
  | [.tup ds] => pRet (.lst ds)
  | _ => pNo
def tupD : List D → TEp
  | [.lst ds] => pRet (.tup ds)
  | [.tup ds] => pRet (.tup ds)
  | _ => pNo
section
variable {K : PySem.W.Frag} {mg : Str → Option Value} {B : Bse} {w : Wd} {W : WX} {σ : L2.St} {Q : VK}
theorem LW.opt {α : Type} {o : Option α} {t : α → TEp} (h : LW K mg W (pOpt o t) w σ Q) : ∃ a, o = some a ∧ LW K mg W (t a) w σ Q := by
  cases o with
  | none => exact h.no.elim
  | some a => exact ⟨a, rfl, h⟩
theorem views1 {vs : List V} {d : D} (h : Views K mg w vs [d]) : ∃ v, vs = [v] ∧ View K mg w v d := by
  cases vs with
  | nil => exact h.elim
  | cons v vs =>
    cases vs with
    | nil => exact ⟨v, rfl, h.1⟩
    | cons u us => exact h.2.elim
theorem views2 {vs : List V} {d e : D} (h : Views K mg w vs [d, e]) : ∃ v u, vs = [v, u] ∧ View K mg w v d ∧ View K mg w u e := by
  cases vs with
  | nil => exact h.elim
  | cons v vs =>
    obtain ⟨u, rfl, h2⟩ := views1 h.2
    exact ⟨v, u, rfl, h.1, h2⟩
theorem c_len : CaV K mg lenD (fun vs H Q => rLenF vs H Q ∨ ∃ p xs, vs = [.ref p] ∧ SqT K H p xs ∧ Q (.int (xs.length : Int)) H) := by
  intro W w σ vs ds Q va h
  unfold lenD at h
  split at h
  · obtain ⟨v, rfl, vb⟩ := views1 va
    cases vb
    obtain ⟨hl, h⟩ := h.gu
    exact .inl ⟨by rw [len_sL]; exact hl, by rw [len_sL]; exact h.ret (.int _)⟩
  · obtain ⟨v, rfl, a, us, rfl, ha, r⟩ := views1 va
    rw [f_len2, ha]
    exact .inl (by rw [f_lenO1, r.len]; exact h.ret (.int _))
  · obtain ⟨v, rfl, a, us, rfl, ha, r⟩ := views1 va
    exact .inr ⟨_, _, rfl, sqT_of ha, by rw [r.len]; exact h.ret (.int _)⟩
  · exact h.no.elim
theorem c_abs : CaV K mg absD rAbsF := by
  intro W w σ vs ds Q va h
  unfold absD at h
  split at h
  · obtain ⟨v, rfl, vb⟩ := views1 va
    cases vb
    exact h.ret (.int _)
  · exact h.no.elim
theorem c_max : CaV K mg maxD rMaxF := by
  intro W w σ vs ds Q va h
  unfold maxD at h
  split at h
  · obtain ⟨v, u, rfl, vc, vd⟩ := views2 va
    cases vc; cases vd
    exact h.ret (.int _)
  · obtain ⟨v, rfl, a, us, rfl, ha, r⟩ := views1 va
    obtain ⟨ns, e, h⟩ := h.opt
    obtain ⟨hn, h⟩ := h.gu
    rw [f_max2, ha, reps_ints r e, f_maxO]
    refine ⟨List.length_pos_iff.mpr hn, fun m hm hy => ?_⟩
    obtain ⟨h1, h2⟩ := maxI_spec hn
    have e : m = maxI ns := Int.le_antisymm (h2 m hm) (hy _ h1)
    rw [e]
    exact h.ret (.int _)
  · exact h.no.elim
theorem c_min : CaV K mg minD rMinF := by
  intro W w σ vs ds Q va h
  unfold minD at h
  split at h
  · obtain ⟨v, u, rfl, vc, vd⟩ := views2 va
    cases vc; cases vd
    exact h.ret (.int _)
  · obtain ⟨v, rfl, a, us, rfl, ha, r⟩ := views1 va
    obtain ⟨ns, e, h⟩ := h.opt
    obtain ⟨hn, h⟩ := h.gu
    rw [f_min2, ha, reps_ints r e, f_minO]
    refine ⟨List.length_pos_iff.mpr hn, fun m hm hy => ?_⟩
    obtain ⟨h1, h2⟩ := minI_spec hn
    have e : m = minI ns := Int.le_antisymm (hy _ h1) (h2 m hm)
    rw [e]
    exact h.ret (.int _)
  · exact h.no.elim
theorem c_sum : CaV K mg sumD rSumF := by
  intro W w σ vs ds Q va h
  unfold sumD at h
  split at h
  · obtain ⟨v, rfl, a, us, rfl, ha, r⟩ := views1 va
    obtain ⟨ns, e, h⟩ := h.opt
    rw [f_sum, ha, reps_ints r e, f_sumO]
    exact h.ret (.int _)
  · exact h.no.elim
theorem c_all : CaV K mg allD rAllF := by
  intro W w σ vs ds Q va h
  unfold allD at h
  split at h
  · obtain ⟨v, rfl, a, us, rfl, ha, r⟩ := views1 va
    obtain ⟨ns, e, h⟩ := h.opt
    rw [f_all, ha, reps_bools r e, f_allO]
    exact h.ret (.bl _)
  · exact h.no.elim
theorem c_int : CaV K mg intD rIntF := by
  intro W w σ vs ds Q va h
  unfold intD at h
  split at h
  · obtain ⟨v, rfl, vb⟩ := views1 va
    cases vb
    exact h.ret (.int _)
  · obtain ⟨v, rfl, vb⟩ := views1 va
    cases vb
    exact h.ret (.int _)
  · obtain ⟨v, rfl, vb⟩ := views1 va
    cases vb
    obtain ⟨n, e, h⟩ := h.opt
    obtain ⟨hl, h⟩ := h.gu
    rw [f_int3, e]
    exact ⟨by rw [len_sL]; exact hl, h.ret (.int _)⟩
  · exact h.no.elim
theorem c_str : CaV K mg strD rStrF := by
  intro W w σ vs ds Q va h
  unfold strD at h
  split at h
  · obtain ⟨v, rfl, vb⟩ := views1 va
    cases vb
    obtain ⟨hl, h⟩ := h.gu
    rw [f_str, sL_numS]
    exact ⟨hl, h.ret (.str _)⟩
  · exact h.no.elim
theorem tyD_of {x : V} {d : D} {T : String} (v : View K mg w x d) (h : tyD d = some T) : TyX K w.H x (.type T) := by
  cases d with
  | non => cases v; cases h; exact .base .non
  | bl b => cases v; cases h; exact .base (.bl _)
  | int i => cases v; cases h; exact .base (.int _)
  | str l => cases v; cases h; exact .base (.str _)
  | lst ds => obtain ⟨a, vs, rfl, ha, r⟩ := v; cases h; exact .base (.lst ha)
  | tup ds =>
    obtain ⟨a, vs, rfl, ha, r⟩ := v
    cases h
    rcases ha with ha | ⟨⟨o, its, n, h1, h2, _⟩, _⟩
    · exact .base (.tup ha)
    · exact .kTuple h1 h2
  | dK ds =>
    obtain ⟨a, vs, rfl, ha, _⟩ := v
    cases h
    rcases ha with ha | ⟨o, ha⟩
    · exact .base (.dK ha)
    · exact .fDict ha
  | _ => cases h
theorem tyD_ok {d : D} {T : String} (h : tyD d = some T) : okTy T = true := by
  cases d <;> first | (cases h; rfl) | cases h
def rIsiP (K : PySem.W.Frag) : RC := fun vs H Q => ∃ x T U, vs = [x, .ty U] ∧ TyX K H x (.type T) ∧ okTy T = true ∧ okTy U = true ∧ Q (.bl (subTy T U)) H
theorem c_isi : CaV K mg isiD (rIsiP K) := by
  intro W w σ vs ds Q va h
  unfold isiD at h
  split at h
  · obtain ⟨v, u, rfl, vc, vd⟩ := views2 va
    cases vd
    obtain ⟨T, e, h⟩ := h.opt
    obtain ⟨ho, h⟩ := h.gu
    exact ⟨_, T, _, rfl, tyD_of vc e, tyD_ok e, ho, h.ret (.bl _)⟩
  · exact h.no.elim
theorem c_list : CaVo K mg listD (fun vs H Q => rListF vs H Q ∨ ∃ p xs, vs = [.ref p] ∧ (SqL K H p xs ∨ SqT K H p xs) ∧ ∀ l, H l = none → Q (.ref l) (upd H l (.lst xs))) := by
  intro W w σ vs ds Q va h
  unfold listD at h
  split at h
  · obtain ⟨v, rfl, a, us, rfl, ha, r⟩ := views1 va
    rw [f_list, ha]
    exact .inl (h.newL r)
  · obtain ⟨v, rfl, a, rfl, ha⟩ := views1 va
    exact .inr ⟨_, _, rfl, .inl ha, h.newL (reps_of_ints _)⟩
  · obtain ⟨v, rfl, a, us, rfl, ha, r⟩ := views1 va
    exact .inr ⟨_, _, rfl, .inr (sqT_of ha), h.newL r⟩
  · exact h.no.elim
theorem c_tup : CaV K mg tupD (fun vs H Q => rTupF vs H Q ∨ ∃ p xs, vs = [.ref p] ∧ SqT K H p xs ∧ Q (.ref p) H) := by
  intro W w σ vs ds Q va h
  unfold tupD at h
  split at h
  · obtain ⟨v, rfl, a, us, rfl, ha, r⟩ := views1 va
    rw [f_tup, ha]
    exact .inl (h.newT r)
  · obtain ⟨v, rfl, a, us, rfl, ha, r⟩ := views1 va
    refine .inr ⟨_, _, rfl, sqT_of ha, h.ret ?_⟩
    rcases ha with ha | ha
    · exact .tup ha r
    · exact .tupK ha r
  · exact h.no.elim
end
section
variable {X : Cx}
theorem call_lenP {K : PySem.W.Frag} (hK : X.K = K := by rfl) : CallR X (.builtin "len") (fun vs H Q => rLenF vs H Q ∨ ∃ p xs, vs = [.ref p] ∧ SqT K H p xs ∧ Q (.int (xs.length : Int)) H) := hK ▸ callImp (L2.CallR.or call_lenF call_len_seq) fun vs H Q h => by
  rcases h with h | ⟨p, xs, rfl, h, q⟩
  · exact .inl h
  · exact .inr ⟨_, _, rfl, .inr h, q⟩
theorem call_isiP {K : PySem.W.Frag} (hK : X.K = K := by rfl) : CallR X (.builtin "isinstance") (rIsiP K) := hK ▸ callImp call_isi fun vs H Q ⟨x, T, U, e, h1, h2, h3, q⟩ => by
  subst e
  exact ⟨_, _, _, _, _, rfl, .ty _, h1, kit_of_ty h2 h3, q⟩
theorem call_listP {K : PySem.W.Frag} (hK : X.K = K := by rfl) : CallR X (.type "list") (fun vs H Q => rListF vs H Q ∨ ∃ p xs, vs = [.ref p] ∧ (SqL K H p xs ∨ SqT K H p xs) ∧ ∀ l, H l = none → Q (.ref l) (upd H l (.lst xs))) := hK ▸ callImp (L2.CallR.or call_listF call_list_of) fun vs H Q h => by
  rcases h with h | ⟨p, xs, rfl, h, q⟩
  · exact .inl h
  · exact .inr ⟨_, _, rfl, h, q⟩
theorem call_tupP {K : PySem.W.Frag} (hK : X.K = K := by rfl) : CallR X (.type "tuple") (fun vs H Q => rTupF vs H Q ∨ ∃ p xs, vs = [.ref p] ∧ SqT K H p xs ∧ Q (.ref p) H) := hK ▸ callImp (L2.CallR.or call_tupF call_tuple_of) fun vs H Q h => by
  rcases h with h | ⟨p, xs, rfl, h, q⟩
  · exact .inl h
  · exact .inr ⟨_, _, rfl, .inr ⟨h, q⟩⟩
theorem po_dnewK {W : WX} {pos : Pos} : PEo W X (.Dict [] [] pos) (pRet (.dK [])) := PE.imp pe_dnewK fun σ H Q ⟨w, e, h⟩ => e ▸ h.newDK
theorem po_dnewT {W : WX} {pos : Pos} : PEo W X (.Dict [] [] pos) (pRet (.dT [])) := PE.imp pe_dnewT fun σ H Q ⟨w, e, h⟩ => e ▸ h.newDT
end
end CM

/-! the pure layer: places, slices, methods of lists and texts -/
namespace CM
open PySem PySem.Spec PyProof.Rows L2
/-! ### places -/
def ixD : D → D → TEp
  | .lst ds, .int i => pOpt (atI ds i) pRet
  | .tup ds, .int i => pOpt (atI ds i) pRet
  | .str l, .int i => pGu (l.length ≤ 16777216) (pOpt (atI l i) fun c => pRet (.str [c]))
  | _, _ => pNo
def pIx (f : D → D → TEp) (tb : TBp) (t2 : TEp) : TEp := fun ρ M E Q => tb ρ M E fun b ρ1 M1 => t2 ρ1 M1 E fun k ρ2 M2 => pOpt (b.get ρ2 M2) (fun c => f c (cn M2 k)) ρ2 M2 E Q
section
variable {K : PySem.W.Frag} {mg : Str → Option Value} {B : Bse} {w : Wd} {W : WX} {σ : L2.St} {H : Hp} {Q : VK}
theorem ix_lift {f : D → D → TEp} {r : R2} {tb : TBp} {t2 : TEp} (hf : OpV K mg f r) (h : LE K mg W (pIx f tb t2) σ H Q) : tOp r (LB K mg W tb) (LE K mg W t2) σ H Q := by
  obtain ⟨w, e, B, ρ, Q0, E0, R, h, k, x⟩ := h
  refine ⟨w, e, B, ρ, _, E0, R, h, fun b ρ1 M1 q w1 v e1 k1 R1 acc => ?_, x⟩
  subst e1
  refine ⟨w1, rfl, B, ρ1, _, E0, R1, q, fun y ρ2 M2 q2 w2 u e2 k2 R2 r2 => ?_, x.ke k1⟩
  subst e2
  obtain ⟨c, hc, l⟩ := LW.opt (K := K) (mg := mg) (W := W) (σ := σ) (Q := Q) (w := w2) ⟨B, ρ2, Q0, E0, R2, q2, fun d ρ3 M3 q3 w3 v3 e3 k3 R3 r3 => k d ρ3 M3 q3 w3 v3 e3 ((k1.trans k2).trans k3) R3 r3, x.ke (k1.trans k2)⟩
  exact hf W w2 σ v u _ _ Q (acc.get w2 ρ2 k2 R2 c hc) (r2.view R2.ok) l
theorem v_ix : OpV K mg ixD (rIx K) := by
  intro W w σ x y a b Q va vb h
  unfold ixD at h
  split at h
  · obtain ⟨p, vs, rfl, hp, r⟩ := va
    cases vb
    obtain ⟨d, e, h⟩ := h.opt
    obtain ⟨v, hv, rv⟩ := r.atI e
    exact .inl ⟨_, _, _, v, rfl, rfl, SqL.of hp, hv, h.ret rv⟩
  · obtain ⟨p, vs, rfl, hp, r⟩ := va
    cases vb
    obtain ⟨d, e, h⟩ := h.opt
    obtain ⟨v, hv, rv⟩ := r.atI e
    exact .inr (.inl ⟨_, _, _, v, rfl, rfl, sqT_of hp, hv, h.ret rv⟩)
  · cases va; cases vb
    obtain ⟨hl, h⟩ := h.gu
    obtain ⟨c, e, h⟩ := h.opt
    exact .inr (.inr ⟨_, _, c, rfl, rfl, by rw [len_sL]; exact hl, e, h.ret (.str [c])⟩)
  · exact h.no.elim
end
/-! ### slices -/
abbrev TOp := PSt → PHp → XP → (Option Int → PSt → PHp → Prop) → Prop
def LOp (K : PySem.W.Frag) (mg : Str → Option Value) (W : WX) (t : TOp) : TO := fun σ H Q => ∃ w, w.H = H ∧ ∃ (B : Bse) (ρ : PSt) (Q0 : Option Int → PSt → PHp → Prop) (E0 : XP), Rl K mg B w ρ σ ∧ t ρ w.M E0 Q0 ∧
  (∀ i ρ' M', Q0 i ρ' M' → ∀ w', w'.M = M' → w.ke w' → Rl K mg B w' ρ' σ → Q i w'.H) ∧ LX K mg W B w σ E0
def oNone : TOp := fun ρ M E Q => Q none ρ M
def oSome (t : TEp) : TOp := fun ρ M E Q => t ρ M E fun d ρ' M' => ∃ i, d = .int i ∧ Q (some i) ρ' M'
def cutD (xs : List D) (lo hi : Option Int) : List D := (xs.drop (HT.sIx xs.length 0 lo)).take (HT.sIx xs.length xs.length hi - HT.sIx xs.length 0 lo)
def cutN (xs : List Nat) (lo hi : Option Int) : List Nat := (xs.drop (HT.sIx xs.length 0 lo)).take (HT.sIx xs.length xs.length hi - HT.sIx xs.length 0 lo)
def slD : D → Option Int → Option Int → TEp
  | .lst ds, lo, hi => pRet (.lst (cutD ds lo hi))
  | .tup ds, lo, hi => pRet (.tup (cutD ds lo hi))
  | .str l, lo, hi => pGu (l.length ≤ 16777216) (pRet (.str (cutN l lo hi)))
  | _, _, _ => pNo
def slL : D → Option Int → Option Int → TEp
  | .lst ds, lo, hi => pRet (.lst (cutD ds lo hi))
  | _, _, _ => pNo
def pSl (f : D → Option Int → Option Int → TEp) (tb : TBp) (tl th : TOp) : TEp := fun ρ M E Q => tb ρ M E fun b ρ1 M1 => tl ρ1 M1 E fun lo ρ2 M2 => th ρ2 M2 E fun hi ρ3 M3 => pOpt (b.get ρ3 M3) (fun c => f c lo hi) ρ3 M3 E Q
theorem cutS_eq (l : List Nat) (lo hi : Option Int) : cutS (sL l) lo hi = sL (cutN l lo hi) := by
  unfold cutS cutN
  rw [len_sL]
theorem PO.imp {X : Cx} {e : Option Expr} {t t' : TO} (h : PO X e t) (hi : ∀ σ H Q, t' σ H Q → t σ H Q) : PO X e t' := ⟨fun pins s σ H Q I q => h.run pins s σ H Q I (hi _ _ _ q)⟩
section
variable {W : WX} {X : Cx} {a b e : Expr} {t : TEp} {tb : TBp} {tl th : TOp} {pos p2 : Pos}
abbrev POp (W : WX) (X : Cx) (e : Option Expr) (t : TOp) : Prop := PO X e (LOp X.K X.mg W t)
theorem pop_none : POp W X none oNone := PO.imp po_none fun σ H Q ⟨w, e, B, ρ, Q0, E0, R, h, k, x⟩ => e ▸ k _ ρ _ h w rfl (Ke.refl _ _) R
theorem pop_some (h : PEp W X e t) : POp W X (some e) (oSome t) := PO.imp (po_some h) fun σ H Q ⟨w, e, B, ρ, Q0, E0, R, h, k, x⟩ =>
  ⟨w, e, B, ρ, _, E0, R, h, fun d ρ' M' ⟨i, ei, q⟩ w' v e1 k1 R1 r1 => by
    subst ei
    cases r1
    exact ⟨i, rfl, k _ ρ' M' q w' e1 k1 R1⟩, x⟩
theorem pp_ix (hb : PBp W X a tb) (h2 : PEp W X b t) (hs : PlainIx b) : PEp W X (.Subscript a b pos) (pIx ixD tb t) := PE.imp (pe_ix ix_seq hb h2 hs) fun σ H Q h => ix_lift v_ix h
def SlV (K : PySem.W.Frag) (mg : Str → Option Value) (f : D → Option Int → Option Int → TEp) (r : V → Option Int → Option Int → Hp → VK → Prop) : Prop := ∀ (W : WX) (w : Wd) (σ : L2.St) (x : V) (a : D) (lo hi : Option Int) (Q : VK), View K mg w x a → LW K mg W (f a lo hi) w σ Q → r x lo hi w.H Q
def SlVo (K : PySem.W.Frag) (mg : Str → Option Value) (f : D → Option Int → Option Int → TEp) (r : V → Option Int → Option Int → Hp → VK → Prop) : Prop := ∀ (W : WX) (w : Wd) (σ : L2.St) (x : V) (a : D) (lo hi : Option Int) (Q : VK), View K mg w x a → LWo K mg W (f a lo hi) w σ Q → r x lo hi w.H Q
theorem LWo.opt {K : PySem.W.Frag} {mg : Str → Option Value} {w : Wd} {σ : L2.St} {Q : VK} {α : Type} {o : Option α} {t : α → TEp} (h : LWo K mg W (pOpt o t) w σ Q) : ∃ a, o = some a ∧ LWo K mg W (t a) w σ Q := by
  cases o with
  | none => exact h.no.elim
  | some a => exact ⟨a, rfl, h⟩
theorem sl_lift {K : PySem.W.Frag} {mg : Str → Option Value} {σ : L2.St} {H : Hp} {Q : VK} {f : D → Option Int → Option Int → TEp} {r : V → Option Int → Option Int → Hp → VK → Prop} (hf : SlV K mg f r) (h : LE K mg W (pSl f tb tl th) σ H Q) : tSl r (LB K mg W tb) (LOp K mg W tl) (LOp K mg W th) σ H Q := by
  obtain ⟨w, e, B, ρ, Q0, E0, R, h, k, x⟩ := h
  refine ⟨w, e, B, ρ, _, E0, R, h, fun b ρ1 M1 q w1 v e1 k1 R1 acc => ?_, x⟩
  subst e1
  refine ⟨w1, rfl, B, ρ1, _, E0, R1, q, fun lo ρ2 M2 q2 w2 e2 k2 R2 => ?_, x.ke k1⟩
  subst e2
  refine ⟨w2, rfl, B, ρ2, _, E0, R2, q2, fun hi ρ3 M3 q3 w3 e3 k3 R3 => ?_, x.ke (k1.trans k2)⟩
  subst e3
  obtain ⟨c, hc, l⟩ := LW.opt (K := K) (mg := mg) (W := W) (σ := σ) (Q := Q) (w := w3) ⟨B, ρ3, Q0, E0, R3, q3, fun d ρ4 M4 q4 w4 v4 e4 k4 R4 r4 => k d ρ4 M4 q4 w4 v4 e4 (((k1.trans k2).trans k3).trans k4) R4 r4, x.ke ((k1.trans k2).trans k3)⟩
  exact hf W w3 σ v _ _ _ Q (acc.get w3 ρ3 (k2.trans k3) R3 c hc) l
theorem sl_lifto {K : PySem.W.Frag} {mg : Str → Option Value} {σ : L2.St} {H : Hp} {Q : VK} {f : D → Option Int → Option Int → TEp} {r : V → Option Int → Option Int → Hp → VK → Prop} (hf : SlVo K mg f r) (h : LO K mg W (pSl f tb tl th) σ H Q) : tSl r (LB K mg W tb) (LOp K mg W tl) (LOp K mg W th) σ H Q := by
  obtain ⟨w, e, B, ρ, Q0, E0, R, h, k, x⟩ := h
  refine ⟨w, e, B, ρ, _, E0, R, h, fun b ρ1 M1 q w1 v e1 k1 R1 acc => ?_, x⟩
  subst e1
  refine ⟨w1, rfl, B, ρ1, _, E0, R1, q, fun lo ρ2 M2 q2 w2 e2 k2 R2 => ?_, x.ke k1⟩
  subst e2
  refine ⟨w2, rfl, B, ρ2, _, E0, R2, q2, fun hi ρ3 M3 q3 w3 e3 k3 R3 => ?_, x.ke (k1.trans k2)⟩
  subst e3
  obtain ⟨c, hc, l⟩ := LWo.opt (K := K) (mg := mg) (W := W) (σ := σ) (Q := Q) (w := w3) ⟨B, ρ3, Q0, E0, R3, q3, fun d ρ4 M4 q4 w4 v4 e4 k4 R4 r4 => k d ρ4 M4 q4 w4 v4 e4 (((k1.trans k2).trans k3).trans k4) R4 r4, x.ke ((k1.trans k2).trans k3)⟩
  exact hf W w3 σ v _ _ _ Q (acc.get w3 ρ3 (k2.trans k3) R3 c hc) l
theorem Reps.cut {K : PySem.W.Frag} {mg : Str → Option Value} {Z : Addr → Prop} {H : Hp} {vs : List V} {ds : List D} (r : Reps K mg Z H vs ds) (lo hi : Option Int) : Reps K mg Z H (cutV vs lo hi) (cutD ds lo hi) := by
  unfold cutV cutD
  rw [r.len]
  exact (r.drop _).take _
def rSlP (K : PySem.W.Frag) : V → Option Int → Option Int → Hp → VK → Prop := fun x lo hi H Q => rSlL K x lo hi H Q ∨ rSlS x lo hi H Q ∨ rSlA K x lo hi H Q
theorem sl_P : SlR X (rSlP X.K) := SlR.or sl_list (SlR.or sl_str sl_tupA)
theorem cutD_all {ds : List D} {lo hi : Option Int} (h : HT.sIx ds.length 0 lo = 0 ∧ HT.sIx ds.length ds.length hi = ds.length) : cutD ds lo hi = ds := by
  unfold cutD
  rw [h.1, h.2]
  simp
theorem v_sl {K : PySem.W.Frag} {mg : Str → Option Value} : SlV K mg slD (rSlP K) := by
  intro W w σ x a lo hi Q va h
  unfold slD at h
  split at h
  · obtain ⟨p, vs, rfl, hp, r⟩ := va
    exact .inl ⟨_, _, rfl, SqL.of hp, h.of_own.newL (r.cut lo hi)⟩
  · obtain ⟨p, vs, rfl, hp, r⟩ := va
    refine .inr (.inr ⟨_, _, rfl, sqT_of hp, fun hh => ?_, fun _ => h.newT (r.cut lo hi)⟩)
    rw [r.len] at hh
    rw [cutD_all hh] at h
    refine h.ret ?_
    rcases hp with hp | hp
    · exact .tup hp r
    · exact .tupK hp r
  · cases va
    obtain ⟨hl, h⟩ := h.gu
    refine .inr (.inl ⟨_, rfl, by rw [len_sL]; exact hl, ?_⟩)
    rw [cutS_eq]
    exact h.ret (.str _)
  · exact h.no.elim
theorem v_slL {K : PySem.W.Frag} {mg : Str → Option Value} : SlVo K mg slL (rSlP K) := by
  intro W w σ x a lo hi Q va h
  unfold slL at h
  split at h
  · obtain ⟨p, vs, rfl, hp, r⟩ := va
    exact .inl ⟨_, _, rfl, SqL.of hp, h.newL (r.cut lo hi)⟩
  · exact h.no.elim
theorem pp_slice {lo hi : Option Expr} (hb : PBp W X a tb) (h1 : POp W X lo tl) (h2 : POp W X hi th) : PEp W X (.Subscript a (.Slice lo hi none p2) pos) (pSl slD tb tl th) := PE.imp (pe_slice sl_P hb h1 h2) fun σ H Q h => sl_lift v_sl h
theorem po_slice {lo hi : Option Expr} (hb : PBp W X a tb) (h1 : POp W X lo tl) (h2 : POp W X hi th) : PEo W X (.Subscript a (.Slice lo hi none p2) pos) (pSl slL tb tl th) := PE.imp (pe_slice sl_P hb h1 h2) fun σ H Q h => sl_lifto v_slL h
end
/-! ### methods of lists -/
abbrev MF := D → List D → (D → D → Prop) → Prop
def appM : MF
  | .lst ds, [y], k => ds.length < 16777216 ∧ k .non (.lst (ds ++ [y]))
  | _, _, _ => False
def popM : MF
  | .lst ds, [], k => ∃ y, ds.getLast? = some y ∧ k y (.lst ds.dropLast)
  | .lst ds, [.int i], k => 0 ≤ i ∧ i < 16777216 ∧ ∃ y, ds[i.toNat]? = some y ∧ k y (.lst (ds.eraseIdx i.toNat))
  | _, _, _ => False
def clearM : MF
  | .lst _, [], k => k .non (.lst [])
  | _, _, _ => False
def pLm (mf : MF) (tb : TBp) (ta : TAp) : TEp := fun ρ M E Q => tb ρ M E fun b ρ1 M1 => (∃ ds, b.get ρ1 M1 = some (.lst ds)) ∧ ta ρ1 M1 E fun xs ρ2 M2 => ∃ c, b.get ρ2 M2 = some c ∧ mf c xs fun r c' => ∃ ρ3 M3, b.put ρ2 M2 c' = some (ρ3, M3) ∧ Q r ρ3 M3
/-- what a method rule gives: from what is held to what is held -/
def LmV (K : PySem.W.Frag) (mg : Str → Option Value) (mf : MF) (r : V → List V → Hp → VK → Prop) : Prop := ∀ (w : Wd) (p : Addr) (c : D) (xs : List V) (ds : List D) (P : D → D → Prop) (Q : VK), View K mg w (.ref p) c → Reps K mg w.Z w.H xs ds →
  (∀ rs c', P rs c' → (∀ o, Ke w.Z w.H w.Z (upd w.H p o)) ∧ ∀ o v, CellAt K mg w.Z (upd w.H p o) p c' → Rep K mg w.Z (upd w.H p o) v rs → Q v (upd w.H p o)) → mf c ds P → r (.ref p) xs w.H Q
theorem lm_app {K : PySem.W.Frag} {mg : Str → Option Value} : LmV K mg appM rAppF := by
  intro w p c xs ds P Q va rs hP h
  unfold appM at h
  split at h
  · obtain ⟨q, vs, e, hp, r⟩ := va
    cases e
    cases rs with
    | cons r1 r2 =>
      cases r2
      obtain ⟨ke, hk⟩ := hP _ _ h.2
      rw [f_app, hp, f_appO]
      exact ⟨by rw [r.len]; exact h.1, hk _ _ ⟨_, upd_same, (r.app (.one r1)).ke (ke _)⟩ .non⟩
  · exact h.elim
theorem getLast?_ix {α : Type} (l : List α) : l.getLast? = l[l.length - 1]? := List.getLast?_eq_getElem?
theorem lm_pop {K : PySem.W.Frag} {mg : Str → Option Value} : LmV K mg popM rPopF := by
  intro w p c xs ds P Q va rs hP h
  unfold popM at h
  split at h
  · obtain ⟨q, vs, e, hp, r⟩ := va
    cases e
    cases rs
    obtain ⟨y, hy, h⟩ := h
    rw [getLast?_ix, ← r.len] at hy
    obtain ⟨v, hv, rv⟩ := r.get hy
    obtain ⟨ke, hk⟩ := hP _ _ h
    rw [f_pop1, hp, f_popO, hv]
    refine hk _ _ ⟨_, upd_same, ?_⟩ (rv.ke (ke _))
    rw [List.dropLast_eq_take, List.dropLast_eq_take, r.len]
    exact (r.take _).ke (ke _)
  · obtain ⟨q, vs, e, hp, r⟩ := va
    cases e
    cases rs with
    | cons r1 r2 =>
      cases r2
      cases r1
      obtain ⟨h0, h1, y, hy, h⟩ := h
      obtain ⟨v, hv, rv⟩ := r.get hy
      obtain ⟨ke, hk⟩ := hP _ _ h
      rw [f_pop2, hp, f_popAtO, hv]
      exact ⟨h0, h1, hk _ _ ⟨_, upd_same, (r.erase _).ke (ke _)⟩ (rv.ke (ke _))⟩
  · exact h.elim
theorem lm_clear {K : PySem.W.Frag} {mg : Str → Option Value} : LmV K mg clearM rClearF := by
  intro w p c xs ds P Q va rs hP h
  unfold clearM at h
  split at h
  · obtain ⟨q, vs, e, hp, r⟩ := va
    cases e
    cases rs
    obtain ⟨ke, hk⟩ := hP _ _ h
    rw [f_clear, hp, f_clearO]
    exact hk _ _ ⟨_, upd_same, .nil⟩ .non
  · exact h.elim
/-- extend by what is frozen -/
def extM : MF
  | .lst ds, [.lst es], k => ds.length + es.length ≤ 16777216 ∧ k .non (.lst (ds ++ es))
  | _, _, _ => False
theorem lm_ext {K : PySem.W.Frag} {mg : Str → Option Value} : LmV K mg extM rExtF := by
  intro w p c xs ds P Q va rs hP h
  unfold extM at h
  split at h
  · obtain ⟨q, vs, e, hp, r⟩ := va
    cases e
    cases rs with
    | cons r1 r2 =>
      cases r2
      cases r1 with
      | lst z h2 r3 =>
        obtain ⟨ke, hk⟩ := hP _ _ h.2
        rw [f_ext, hp, h2, f_extO]
        exact ⟨by rw [r.len, r3.len]; exact h.1, hk _ _ ⟨_, upd_same, (r.app r3).ke (ke _)⟩ .non⟩
  · exact h.elim
section
variable {W : WX} {X : Cx} {o e : Expr} {es : List Expr} {t : TEp} {ta : TAp} {tb : TBp} {name : Str} {id : String} {apos cpos : Pos} {r : V → List V → Hp → VK → Prop} {mf : MF}
theorem lm_core {K : PySem.W.Frag} {mg : Str → Option Value} {σ : L2.St} {Q : VK} {Q0 : QP} {w1 w2 : Wd} {b : Bs} {p : Addr} {c : D} {us : List V} {xs : List D} {ρ2 : PSt} (hf : LmV K mg mf r) (acc : Acc K mg B w1 σ (.ref p) b) (k2 : w1.ke w2) (R2 : Rl K mg B w2 ρ2 σ) (hc : b.get ρ2 w2.M = some c) (r2 : Reps K mg w2.Z w2.H us xs)
    (k : ∀ d ρ' M', Q0 d ρ' M' → ∀ w' v, w'.M = M' → w2.ke w' → Rl K mg B w' ρ' σ → Rep K mg w'.Z w'.H v d → Q v w'.H)
    (q2 : mf c xs fun r c' => ∃ ρ3 M3, b.put ρ2 w2.M c' = some (ρ3, M3) ∧ Q0 r ρ3 M3) : r (.ref p) us w2.H Q := by
  refine hf w2 p c us xs _ Q (acc.get w2 ρ2 k2 R2 c hc) r2 (fun rs c' ⟨ρ3, M3, hp3, q3⟩ => ?_) q2
  obtain ⟨p', e', ke, hR⟩ := acc.put w2 ρ2 k2 R2 _ _ _ hp3
  cases e'
  exact ⟨ke, fun o v hc' hv => k _ ρ3 M3 q3 ⟨w2.Z, M3, upd w2.H p o⟩ v rfl (ke o) (hR o hc') hv⟩
theorem lm_lift {K : PySem.W.Frag} {mg : Str → Option Value} {σ : L2.St} {H : Hp} {Q : VK} (hf : LmV K mg mf r) (h : LE K mg W (pLm mf tb ta) σ H Q) : tLM r (LB K mg W tb) (LA K mg W ta) σ H Q := by
  obtain ⟨w, e, B, ρ, Q0, E0, R, h, k, x⟩ := h
  refine ⟨w, e, B, ρ, _, E0, R, h, fun b ρ1 M1 ⟨⟨ds0, hg⟩, q⟩ w1 v e1 k1 R1 acc => ?_, x⟩
  subst e1
  have v1 := acc.get w1 ρ1 (Ke.refl _ _) R1 _ hg
  obtain ⟨p, vs0, rfl, hp, _⟩ := v1
  refine ⟨by rw [f_isL, hp, f_isLO]; trivial, w1, rfl, B, ρ1, _, E0, R1, q, fun xs ρ2 M2 ⟨c, hc, q2⟩ w2 us e2 k2 R2 r2 => ?_, x.ke k1⟩
  subst e2
  exact lm_core hf acc k2 R2 hc r2 (fun d ρ' M' q' w' v e' k' => k d ρ' M' q' w' v e' ((k1.trans k2).trans k')) q2
theorem lm_lift0 {K : PySem.W.Frag} {mg : Str → Option Value} {σ : L2.St} {H : Hp} {Q : VK} (hf : LmV K mg mf r) (h : LE K mg W (pLm mf tb pNil) σ H Q) : tLM0 r (LB K mg W tb) σ H Q := by
  obtain ⟨w, e, B, ρ, Q0, E0, R, h, k, x⟩ := h
  refine ⟨w, e, B, ρ, _, E0, R, h, fun b ρ1 M1 ⟨⟨ds0, hg⟩, q⟩ w1 v e1 k1 R1 acc => ?_, x⟩
  subst e1
  have v1 := acc.get w1 ρ1 (Ke.refl _ _) R1 _ hg
  obtain ⟨p, vs0, rfl, hp, _⟩ := v1
  obtain ⟨c, hc, q2⟩ := q
  exact ⟨by rw [f_isL, hp, f_isLO]; trivial, lm_core hf acc (Ke.refl _ _) R1 hc .nil (fun d ρ' M' q' w' v e' k' => k d ρ' M' q' w' v e' (k1.trans k')) q2⟩
theorem pp_lm0 (slot : Slot "list" name id) (hty : typeOf (.builtin id) = pure (.type "method_descriptor")) (hm : MtR X id r) (hf : LmV X.K X.mg mf r) (ho : PBp W X o tb) (hb : attributeBase o name X.env (eval o X.env) = eval o X.env := by rfl)
    (hl : (apos.endLine == cpos.line) = true := by rfl) : PEp W X (.Call (.Attribute o name apos) [] [] cpos) (pLm mf tb pNil) := PE.imp (pe_lm0 slot hty hm ho hb hl) fun σ H Q h => lm_lift0 hf h
theorem pp_lm (slot : Slot "list" name id) (hty : typeOf (.builtin id) = pure (.type "method_descriptor")) (hm : MtR X id r) (hf : LmV X.K X.mg mf r) (ho : PBp W X o tb) (ha : PAp W X (e :: es) ta) (hb : attributeBase o name X.env (eval o X.env) = eval o X.env := by rfl)
    (hf' : ((backTo cpos (starEach (e :: es) X.env)).all (fun x => !x.1) && (backToKw cpos (keywordEach [] X.env)).all (fun x => x.1.isSome) && decide ((e :: es).length + ([] : List Keyword).length + (if ([] : List Keyword).isEmpty then 0 else 1) < 30)) = true := by rfl)
    (hl : (apos.endLine == cpos.line) = true := by rfl) (hs : starEach (e :: es) X.env = (false, eval e X.env) :: starEach es X.env := by rfl) (hp : (backTo cpos (starEach es X.env)).any (·.1) = false := by rfl) :
    PEp W X (.Call (.Attribute o name apos) (e :: es) [] cpos) (pLm mf tb ta) := PE.imp (pe_lm slot hty hm ho ha hb hf' hl hs hp) fun σ H Q h => lm_lift hf h
end
/-! ### methods of texts -/
def joinD : D → D → TEp
  | .str s, .lst ds => pOpt (dStrs ds) fun ws => pGu ((ws.map (·.length)).sum + ws.length * s.length ≤ 16777216) (pRet (.str (TL.joinL s ws)))
  | _, _ => pNo
def splitD : D → D → TEp
  | .str a, .str [c] => pGu (c < 256 ∧ a.length ≤ 16777214) (pRet (.lst ((splitL c a).map D.str)))
  | _, _ => pNo
def strM1 (f : D → D → TEp) (t1 t2 : TEp) : TEp := fun ρ M E Q => t1 ρ M E fun a ρ1 M1 => (∃ l, a = .str l) ∧ t2 ρ1 M1 E fun b ρ2 M2 => f (cn M2 a) (cn M2 b) ρ2 M2 E Q
section
variable {K : PySem.W.Frag} {mg : Str → Option Value} {B : Bse} {w : Wd} {W : WX} {σ : L2.St} {H : Hp} {Q : VK}
def MtV (K : PySem.W.Frag) (mg : Str → Option Value) (f : D → D → TEp) (r : V → List V → Hp → VK → Prop) : Prop := OpV K mg f (fun x y H Q => r x [y] H Q)
def MtVo (K : PySem.W.Frag) (mg : Str → Option Value) (f : D → D → TEp) (r : V → List V → Hp → VK → Prop) : Prop := OpVo K mg f (fun x y H Q => r x [y] H Q)
theorem m1_lift {f : D → D → TEp} {r : V → List V → Hp → VK → Prop} {t1 t2 : TEp} (hf : MtV K mg f r) (h : LE K mg W (strM1 f t1 t2) σ H Q) : tM1 r (LE K mg W t1) (LE K mg W t2) σ H Q := by
  have h1 := LE.bind (k := fun a => fun ρ M E Q => (∃ l, a = .str l) ∧ t2 ρ M E fun b ρ2 M2 => f (cn M2 a) (cn M2 b) ρ2 M2 E Q) h
  refine h1.mono fun x H1 ⟨w1, a, e1, r1, B, ρ, Q0, E0, R, ⟨⟨l, el⟩, l1⟩, kk⟩ => ?_
  subst e1 el
  refine ⟨by cases r1; exact ⟨_, rfl⟩, ?_⟩
  have h2 := LW.bind (t1 := t2) (k := fun b => fun ρ M E Q => f (cn M (.str l)) (cn M b) ρ M E Q) r1 ⟨B, ρ, Q0, E0, R, l1, kk⟩
  refine h2.mono fun y H2 ⟨w2, b, e2, r1, r2, l2⟩ => ?_
  subst e2
  exact hf W w2 σ x y _ _ Q (r1.view l2.ok) (r2.view l2.ok) l2
theorem m1_lifto {f : D → D → TEp} {r : V → List V → Hp → VK → Prop} {t1 t2 : TEp} (hf : MtVo K mg f r) (h : LO K mg W (strM1 f t1 t2) σ H Q) : tM1 r (LE K mg W t1) (LE K mg W t2) σ H Q := by
  have h1 := LO.bind (k := fun a => fun ρ M E Q => (∃ l, a = .str l) ∧ t2 ρ M E fun b ρ2 M2 => f (cn M2 a) (cn M2 b) ρ2 M2 E Q) h
  refine h1.mono fun x H1 ⟨w1, a, e1, r1, B, ρ, Q0, E0, R, ⟨⟨l, el⟩, l1⟩, kk⟩ => ?_
  subst e1 el
  refine ⟨by cases r1; exact ⟨_, rfl⟩, ?_⟩
  have h2 := LWo.bind (t1 := t2) (k := fun b => fun ρ M E Q => f (cn M (.str l)) (cn M b) ρ M E Q) r1 ⟨B, ρ, Q0, E0, R, l1, kk⟩
  refine h2.mono fun y H2 ⟨w2, b, e2, r1, r2, l2⟩ => ?_
  subst e2
  exact hf W w2 σ x y _ _ Q (r1.view l2.ok) (r2.view l2.ok) l2
theorem v_join : MtV K mg joinD rJoinF := by
  intro W w σ x y a b Q va vb h
  unfold joinD at h
  split at h
  · cases va
    obtain ⟨p, vs, rfl, hp, r⟩ := vb
    obtain ⟨ws, e, h⟩ := h.opt
    obtain ⟨hl, h⟩ := h.gu
    show joinO _ (w.H p) w.H Q
    rw [hp, reps_strs r e, f_joinO]
    exact ⟨by rw [len_sL]; exact hl, h.ret (.str _)⟩
  · exact h.no.elim
theorem v_split : MtVo K mg splitD rSplitF := by
  intro W w σ x y a b Q va vb h
  unfold splitD at h
  split at h
  · cases va; cases vb
    obtain ⟨⟨h1, h2⟩, h⟩ := h.gu
    exact ⟨_, rfl, h1, by rw [len_sL]; exact h2, h.newL (reps_of_strs _)⟩
  · exact h.no.elim
end
section
variable {W : WX} {X : Cx} {o e : Expr} {t1 t2 : TEp} {apos cpos : Pos}
theorem pp_join (ho : PEp W X o t1) (he : PEp W X e t2) (hs : starEach [e] X.env = [(false, eval e X.env)] := by rfl) (hb : attributeBase o "join" X.env (eval o X.env) = eval o X.env := by rfl) (hl : (apos.endLine == cpos.line) = true := by rfl) :
    PEp W X (.Call (.Attribute o "join" apos) [e] [] cpos) (strM1 joinD t1 t2) := PE.imp (pe_joinF ho he hs hb hl) fun σ H Q h => m1_lift v_join h
theorem po_split (ho : PEp W X o t1) (he : PEp W X e t2) (hs : starEach [e] X.env = [(false, eval e X.env)] := by rfl) (hb : attributeBase o "split" X.env (eval o X.env) = eval o X.env := by rfl) (hl : (apos.endLine == cpos.line) = true := by rfl) :
    PEo W X (.Call (.Attribute o "split" apos) [e] [] cpos) (strM1 splitD t1 t2) := PE.imp (pe_splitF ho he hs hb hl) fun σ H Q h => m1_lifto v_split h
/-! ### calls of built-ins -/
theorem pp_callB {x : Str} {id : String} {es : List Expr} {f : List D → TEp} {r : RC} {ta : TAp} {p pos : Pos} (hc : CallR X (.builtin id) r) (hf : CaV X.K X.mg f r) (hg : Gl X x) (hm : X.mg x = none) (hv : bootBuiltins x = some (.builtin id)) (ha : PAp W X (e :: es) ta) (hn : x ≠ "__name__" := by decide) (hd : (x == ("__debug__" : Str)) = false := by decide)
    (hs : starEach (e :: es) X.env = (false, eval e X.env) :: starEach es X.env := by rfl) (hp : (backTo pos (starEach es X.env)).any (·.1) = false := by rfl) : PEp W X (.Call (.Name x p) (e :: es) [] pos) (pCB f ta) := PE.imp (pe_callB hc hg hm hv ha hn hd hs hp) fun σ H Q h => cb_lift hf h
theorem pp_callTy {x : Str} {T : String} {es : List Expr} {f : List D → TEp} {r : RC} {ta : TAp} {p pos : Pos} (hc : CallR X (.type T) r) (hf : CaV X.K X.mg f r) (hg : Gl X x) (hm : X.mg x = none) (hv : bootBuiltins x = some (.type T)) (ha : PAp W X (e :: es) ta) (hn : x ≠ "__name__" := by decide) (hd : (x == ("__debug__" : Str)) = false := by decide)
    (hs : starEach (e :: es) X.env = (false, eval e X.env) :: starEach es X.env := by rfl) (hp : (backTo pos (starEach es X.env)).any (·.1) = false := by rfl) : PEp W X (.Call (.Name x p) (e :: es) [] pos) (pCB f ta) := PE.imp (pe_callTy hc hg hm hv ha hn hd hs hp) fun σ H Q h => cb_lift hf h
theorem po_callTy {x : Str} {T : String} {es : List Expr} {f : List D → TEp} {r : RC} {ta : TAp} {p pos : Pos} (hc : CallR X (.type T) r) (hf : CaVo X.K X.mg f r) (hg : Gl X x) (hm : X.mg x = none) (hv : bootBuiltins x = some (.type T)) (ha : PAp W X (e :: es) ta) (hn : x ≠ "__name__" := by decide) (hd : (x == ("__debug__" : Str)) = false := by decide)
    (hs : starEach (e :: es) X.env = (false, eval e X.env) :: starEach es X.env := by rfl) (hp : (backTo pos (starEach es X.env)).any (·.1) = false := by rfl) : PEo W X (.Call (.Name x p) (e :: es) [] pos) (pCB f ta) := PE.imp (pe_callTy hc hg hm hv ha hn hd hs hp) fun σ H Q h => cb_lifto hf h
end
end CM

/-! the pure layer: statements -/
namespace CM
open PySem PySem.Spec PyProof.Rows L2
def isCell : D → Bool
  | .lst _ => true
  | .dK _ => true
  | .dT _ => true
  | .obj _ _ => true
  | .tbl _ => true
  | _ => false
/-- what is returned: m: what can be written is the caller's own -/
def Res (K : PySem.W.Frag) (mg : Str → Option Value) (m : Bool) (B : Bse) (w : Wd) (ρ : PSt) (σ : L2.St) (v : V) (d : D) : Prop :=
  if (m && isCell d) = true then ∃ p, v = .ref p ∧ OwnR K mg B w ρ σ p d else Rep K mg w.Z w.H v d
section
variable (K : PySem.W.Frag) (mg : Str → Option Value) (W : WX) (m : Bool)
def LXs (B : Bse) (w : Wd) (E0 : XP) : Prop := ∀ c g ρ' M', E0 c g ρ' M' → ∀ w' σ' cls dx, w'.M = M' → w.ke w' → Rl K mg B w' ρ' σ' → XRep K mg w' c g cls dx → W cls dx σ' w'.H
structure LDs (B : Bse) (w : Wd) (Dp : EndsP) (D : Ends) : Prop where
  nx : ∀ ρ' M', Dp.nx ρ' M' → ∀ w' σ', w'.M = M' → w.ke w' → Rl K mg B w' ρ' σ' → D.nx σ' w'.H
  bk : ∀ ρ' M', Dp.bk ρ' M' → ∀ w' σ', w'.M = M' → w.ke w' → Rl K mg B w' ρ' σ' → D.bk σ' w'.H
  ct : ∀ ρ' M', Dp.ct ρ' M' → ∀ w' σ', w'.M = M' → w.ke w' → Rl K mg B w' ρ' σ' → D.ct σ' w'.H
  rt : ∀ d ρ' M', Dp.rt d ρ' M' → ∀ w' σ' v, w'.M = M' → w.ke w' → Rl K mg B w' ρ' σ' → Res K mg m B w' ρ' σ' v d → D.rt v w'.H
def LS (t : TSp) : TS := fun D σ H => ∃ w, w.H = H ∧ ∃ (B : Bse) (ρ : PSt) (Dp : EndsP) (E0 : XP), Rl K mg B w ρ σ ∧ t E0 Dp ρ w.M ∧ LDs K mg m B w Dp D ∧ LXs K mg W B w E0
end
abbrev PSp (W : WX) (m : Bool) (X : Cx) (st : Stmt) (t : TSp) : Prop := PS X st (LS X.K X.mg W m t)
abbrev PSsp (W : WX) (m : Bool) (X : Cx) (st : List Stmt) (t : TSp) : Prop := PSs X st (LS X.K X.mg W m t)
section
variable {K : PySem.W.Frag} {mg : Str → Option Value} {W : WX} {m : Bool} {B : Bse} {w w' : Wd} {σ : L2.St} {E0 : XP} {Dp : EndsP} {D : Ends}
theorem LXs.lx (h : LXs K mg W B w E0) : LX K mg W B w σ E0 := fun c g ρ' M' e w' cls dx e1 k R x => h c g ρ' M' e w' σ cls dx e1 k R x
theorem LXs.ke (h : LXs K mg W B w E0) (k : w.ke w') : LXs K mg W B w' E0 := fun c g ρ' M' e w2 σ' cls dx e1 k2 R x => h c g ρ' M' e w2 σ' cls dx e1 (k.trans k2) R x
theorem LDs.ke (h : LDs K mg m B w Dp D) (k : w.ke w') : LDs K mg m B w' Dp D where
  nx := fun ρ' M' e w2 σ' e1 k2 R => h.nx ρ' M' e w2 σ' e1 (k.trans k2) R
  bk := fun ρ' M' e w2 σ' e1 k2 R => h.bk ρ' M' e w2 σ' e1 (k.trans k2) R
  ct := fun ρ' M' e w2 σ' e1 k2 R => h.ct ρ' M' e w2 σ' e1 (k.trans k2) R
  rt := fun d ρ' M' e w2 σ' v e1 k2 R r => h.rt d ρ' M' e w2 σ' v e1 (k.trans k2) R r
end
/-! ### the readings -/
def sSeq (t u : TSp) : TSp := fun E D ρ M => t E { D with nx := fun ρ' M' => u E D ρ' M' } ρ M
def sNext : TSp := fun E D ρ M => D.nx ρ M
def sBrk : TSp := fun E D ρ M => D.bk ρ M
def sCont : TSp := fun E D ρ M => D.ct ρ M
def sDrop (t : TEp) : TSp := fun E D ρ M => t ρ M E fun _ ρ' M' => D.nx ρ' M'
def sSet (i : Nat) (t : TEp) : TSp := fun E D ρ M => t ρ M E fun d ρ' M' => D.nx (ρ'.set i (some (.fz d))) M'
def sSetO (i : Nat) (t : TEp) : TSp := fun E D ρ M => t ρ M E fun d ρ' M' => D.nx (ρ'.set i (some (.own d))) M'
def sRet (t : TEp) : TSp := fun E D ρ M => t ρ M E fun d ρ' M' => D.rt d ρ' M'
/-- in a def that hands over what can be written: a value that cannot -/
def sRetS (t : TEp) : TSp := fun E D ρ M => t ρ M E fun d ρ' M' => isCell d = false ∧ D.rt d ρ' M'
def sRetN : TSp := fun E D ρ M => D.rt .non ρ M
def sIf (c : TTp) (t u : TSp) : TSp := fun E D ρ M => c ρ M E fun b ρ' M' => if b = true then t E D ρ' M' else u E D ρ' M'
def sNever : TSp := fun E D ρ M => False
def sAug (i : Nat) (f : D → D → TEp) (t : TEp) : TSp := fun E D ρ M => match ρ[i]? with
  | some (some (.fz d)) => t ρ M E fun y ρ1 M1 => f (cn M1 d) (cn M1 y) ρ1 M1 E fun z ρ2 M2 => D.nx (ρ2.set i (some (.fz z))) M2
  | _ => False
section
variable {W : WX} {m : Bool} {X : Cx} {st : Stmt} {rest : List Stmt} {t u : TSp} {te : TEp} {tc : TTp} {e c : Expr} {pos pos' : Pos}
theorem sp_nil : PSsp W m X [] sNext := PSs.imp pss_nil fun D σ H ⟨w, e, B, ρ, Dp, E0, R, h, d, x⟩ => e ▸ d.nx ρ _ h w σ rfl (Ke.refl _ _) R
theorem sp_cons (h1 : PSp W m X st t) (h2 : PSsp W m X rest u) : PSsp W m X (st :: rest) (sSeq t u) := PSs.imp (pss_cons h1 h2) fun D σ H ⟨w, e, B, ρ, Dp, E0, R, h, d, x⟩ =>
  ⟨w, e, B, ρ, _, E0, R, h, ⟨fun ρ' M' q w' σ' e' k' R' => ⟨w', rfl, B, ρ', Dp, E0, R', e' ▸ q, d.ke k', x.ke k'⟩, d.bk, d.ct, d.rt⟩, x⟩
theorem sp_one (h : PSp W m X st t) : PSsp W m X [st] t := PSs.imp (pss_one h) fun D σ H h => h
theorem s_expr (h : PEp W X e te) (hs : swapsWith e none pos.line X.env = pure false := by rfl) : PSp W m X (.Expr e pos) (sDrop te) := PS.imp (ps_expr h hs) fun D σ H ⟨w, e, B, ρ, Dp, E0, R, h, d, x⟩ =>
  ⟨w, e, B, ρ, _, E0, R, h, fun v ρ' M' q w' u e' k' R' r' => d.nx ρ' M' q w' σ e' k' R', x.lx⟩
theorem s_set {i : Nat} {y : Str} (hN : X.N.Nodup) (hi : X.N[i]? = some y) (hx : L2.Loc X.env.scope y) (h : PEp W X e te) (hs : swapsWith e (some (.Name y pos')) pos.line X.env = pure false := by rfl) (hf : X.fn y = true ∨ X.env.scope.names.lookup y = some .local := by first | exact .inl rfl | exact .inr rfl | assumption) :
    PSp W m X (.Assign [.Name y pos'] e pos) (sSet i te) := PS.imp (ps_set hN hi hx h hs hf) fun D σ H ⟨w, e, B, ρ, Dp, E0, R, h, d, x⟩ =>
  ⟨w, e, B, ρ, _, E0, R, h, fun v ρ' M' q w' u e' k' R' r' => d.nx _ M' q w' _ e' k' (R'.setF r'), x.lx⟩
theorem s_setO {i : Nat} {y : Str} (hN : X.N.Nodup) (hi : X.N[i]? = some y) (hx : L2.Loc X.env.scope y) (h : PEo W X e te) (hs : swapsWith e (some (.Name y pos')) pos.line X.env = pure false := by rfl) (hf : X.fn y = true ∨ X.env.scope.names.lookup y = some .local := by first | exact .inl rfl | exact .inr rfl | assumption) :
    PSp W m X (.Assign [.Name y pos'] e pos) (sSetO i te) := PS.imp (ps_set hN hi hx h hs hf) fun D σ H ⟨w, e, B, ρ, Dp, E0, R, h, d, x⟩ =>
  ⟨w, e, B, ρ, _, E0, R, h, fun v ρ' M' q w' p e' k' R' o' => d.nx _ M' q w' _ e' k' (R'.setO o'), x.lx⟩
theorem s_ret (h : PEp W X e te) : PSp W false X (.Return (some e) pos) (sRet te) := PS.imp (ps_ret h) fun D σ H ⟨w, e, B, ρ, Dp, E0, R, h, d, x⟩ =>
  ⟨w, e, B, ρ, _, E0, R, h, fun v ρ' M' q w' u e' k' R' r' => d.rt v ρ' M' q w' σ u e' k' R' (by unfold Res; rw [if_neg (by simp)]; exact r'), x.lx⟩
theorem s_retS (h : PEp W X e te) : PSp W true X (.Return (some e) pos) (sRetS te) := PS.imp (ps_ret h) fun D σ H ⟨w, e, B, ρ, Dp, E0, R, h, d, x⟩ =>
  ⟨w, e, B, ρ, _, E0, R, h, fun v ρ' M' ⟨hc, q⟩ w' u e' k' R' r' => d.rt v ρ' M' q w' σ u e' k' R' (by unfold Res; rw [if_neg (by rw [hc]; simp)]; exact r'), x.lx⟩
theorem CellAt.isCell {K : PySem.W.Frag} {mg : Str → Option Value} {Z : Addr → Prop} {H : Hp} {p : Addr} {d : D} (h : CellAt K mg Z H p d) : isCell d = true := by
  cases d <;> first | rfl | exact h.elim
theorem s_retO (h : PEo W X e te) : PSp W true X (.Return (some e) pos) (sRet te) := PS.imp (ps_ret h) fun D σ H ⟨w, e, B, ρ, Dp, E0, R, h, d, x⟩ =>
  ⟨w, e, B, ρ, _, E0, R, h, fun v ρ' M' q w' p e' k' R' o' => d.rt v ρ' M' q w' σ (.ref p) e' k' R' (by unfold Res; rw [if_pos (by rw [o'.at_.isCell]; rfl)]; exact ⟨p, rfl, o'⟩), x.lx⟩
theorem res_non {K : PySem.W.Frag} {mg : Str → Option Value} {B : Bse} {w : Wd} {ρ : PSt} {σ : L2.St} : Res K mg m B w ρ σ .non .non := by
  unfold Res
  rw [if_neg (by cases m <;> simp [isCell])]
  exact .non
theorem s_retN : PSp W m X (.Return none pos) sRetN := PS.imp ps_retN fun D σ H ⟨w, e, B, ρ, Dp, E0, R, h, d, x⟩ => e ▸ d.rt .non ρ _ h w σ .non rfl (Ke.refl _ _) R res_non
theorem s_pass : PSp W m X (.Pass pos) sNext := PS.imp ps_pass fun D σ H ⟨w, e, B, ρ, Dp, E0, R, h, d, x⟩ => e ▸ d.nx ρ _ h w σ rfl (Ke.refl _ _) R
theorem s_brk : PSp W m X (.Break pos) sBrk := PS.imp ps_break fun D σ H ⟨w, e, B, ρ, Dp, E0, R, h, d, x⟩ => e ▸ d.bk ρ _ h w σ rfl (Ke.refl _ _) R
theorem s_cont : PSp W m X (.Continue pos) sCont := PS.imp ps_continue fun D σ H ⟨w, e, B, ρ, Dp, E0, R, h, d, x⟩ => e ▸ d.ct ρ _ h w σ rfl (Ke.refl _ _) R
theorem s_never : PSp W m X st sNever := PS.imp ps_never fun D σ H ⟨w, e, B, ρ, Dp, E0, R, h, d, x⟩ => h
theorem LT.bindS {K : PySem.W.Frag} {mg : Str → Option Value} {σ : L2.St} {H : Hp} {D : Ends} (h : LS K mg W m (sIf tc t u) D σ H) : LT K mg W tc σ H fun b H1 => if b = true then LS K mg W m t D σ H1 else LS K mg W m u D σ H1 := by
  obtain ⟨w, rfl, B, ρ, Dp, E0, R, h, d, x⟩ := h
  refine ⟨w, rfl, B, ρ, _, E0, R, h, fun b ρ' M' q w' e1 k1 R1 => ?_, x.lx⟩
  subst e1
  split
  · rename_i hb
    rw [if_pos hb] at q
    exact ⟨w', rfl, B, ρ', Dp, E0, R1, q, d.ke k1, x.ke k1⟩
  · rename_i hb
    rw [if_neg hb] at q
    exact ⟨w', rfl, B, ρ', Dp, E0, R1, q, d.ke k1, x.ke k1⟩
theorem s_if {a b : List Stmt} (hc : PTp W X c tc) (h1 : PSsp W m X a t) (h2 : PSsp W m X b u) : PSp W m X (.If c a b pos) (sIf tc t u) := PS.imp (ps_if hc h1 h2) fun D σ H h => LT.bindS h
theorem s_aug {i : Nat} {y : Str} {op : Operator} {f : D → D → TEp} {r : R2} (hN : X.N.Nodup) (hi : X.N[i]? = some y) (hx : L2.Loc X.env.scope y) (h : PEp W X e te) (ho : PIp X op r) (hv : OpV X.K X.mg f r) (hf : X.fn y = true ∨ X.env.scope.names.lookup y = some .local := by first | exact .inl rfl | exact .inr rfl | assumption) :
    PSp W m X (.AugAssign (.Name y pos') op e pos) (sAug i f te) := PS.imp (ps_aug hN hi hx h ho hf) fun D σ H ⟨w, e, B, ρ, Dp, E0, R, h, d, x⟩ => by
  subst e
  unfold sAug at h
  split at h
  · rename_i d0 hd
    obtain ⟨v, hv1, r1⟩ := R.sl.fz i d0 hd
    refine ⟨v, hv1, w, rfl, B, ρ, _, E0, R, h, fun y ρ1 M1 q w1 u e1 k1 R1 r2 => ?_, x.lx⟩
    subst e1
    refine hv W w1 σ v u _ _ _ ((r1.ke k1).view R1.ok) (r2.view R1.ok) ⟨B, ρ1, _, E0, R1, q, fun z ρ2 M2 q2 w2 v2 e2 k2 R2 r3 => ?_, (x.ke k1).lx⟩
    exact d.nx _ M2 q2 w2 _ e2 (k1.trans k2) (R2.setF r3)
  · exact h.elim
end
/-! ### targets -/
abbrev TGp := D → PSt → PHp → (PSt → PHp → Prop) → Prop
abbrev TGsp := List D → PSt → PHp → (PSt → PHp → Prop) → Prop
def gN (i : Nat) : TGp := fun d ρ M R => R (ρ.set i (some (.fz d))) M
def gNilP : TGsp := fun ds ρ M R => ds = [] ∧ R ρ M
def gConsP (g : TGp) (gs : TGsp) : TGsp := fun ds ρ M R => ∃ d r, ds = d :: r ∧ g d ρ M fun ρ' M' => gs r ρ' M' R
def gT (n : Nat) (gs : TGsp) : TGp := fun d ρ M R => match d with
  | .tup ds => ds.length = n ∧ gs ds ρ M R
  | _ => False
section
variable (K : PySem.W.Frag) (mg : Str → Option Value)
def LG (is : List Nat) (g : TGp) : TG := fun v σ H R => ∃ w, w.H = H ∧ ∃ (B : Bse) (ρ : PSt) (d : D) (R0 : PSt → PHp → Prop), Rl K mg B w ρ σ ∧ Rep K mg w.Z w.H v d ∧ g d ρ w.M R0 ∧ ∀ ρ' M', R0 ρ' M' → ∀ w' σ', w'.M = M' → w.ke w' → Rl K mg B w' ρ' σ' → wipe σ' is = wipe σ is → R σ' w'.H
def LGs (is : List Nat) (g : TGsp) : TGs := fun vs σ H R => ∃ w, w.H = H ∧ ∃ (B : Bse) (ρ : PSt) (ds : List D) (R0 : PSt → PHp → Prop), Rl K mg B w ρ σ ∧ Reps K mg w.Z w.H vs ds ∧ g ds ρ w.M R0 ∧ ∀ ρ' M', R0 ρ' M' → ∀ w' σ', w'.M = M' → w.ke w' → Rl K mg B w' ρ' σ' → wipe σ' is = wipe σ is → R σ' w'.H
end
abbrev PGp (X : Cx) (is : List Nat) (e : Expr) (g : TGp) : Prop := PG X e (LG X.K X.mg is g)
abbrev PGsp (X : Cx) (is : List Nat) (es : List Expr) (g : TGsp) : Prop := PGs X es (LGs X.K X.mg is g)
theorem PG.imp {X : Cx} {e : Expr} {t t' : TG} (h : PG X e t) (hi : ∀ v σ H Q, t' v σ H Q → t v σ H Q) : PG X e t' := ⟨fun pins s σ H v u Q I r q => h.run pins s σ H v u Q I r (hi _ _ _ _ q)⟩
theorem PGs.imp {X : Cx} {e : List Expr} {t t' : TGs} (h : PGs X e t) (hi : ∀ v σ H Q, t' v σ H Q → t v σ H Q) : PGs X e t' := ⟨fun pins s σ H v u Q I r q => h.run pins s σ H v u Q I r (hi _ _ _ _ q)⟩
theorem wipe_cons {σ : L2.St} {v : Nat} {vs : List Nat} : wipe σ (v :: vs) = (wipe σ vs).set v none := rfl
theorem wipe_set {x : Option V} {i : Nat} : ∀ {vs : List Nat} {σ : L2.St}, i ∈ vs → wipe (σ.set i x) vs = wipe σ vs
  | v :: vs, σ, h => by
    rw [wipe_cons, wipe_cons]
    by_cases hv : i ∈ vs
    · rw [wipe_set hv]
    · have e : i = v := by
        rcases List.mem_cons.mp h with e | e
        · exact e
        · exact absurd e hv
      subst e
      have comm : ∀ (us : List Nat) (τ : L2.St), i ∉ us → wipe (τ.set i x) us = (wipe τ us).set i x := by
        intro us
        induction us with
        | nil => intro τ _; rfl
        | cons u us ih =>
          intro τ hu
          rw [wipe_cons, wipe_cons, ih τ (fun z => hu (List.mem_cons_of_mem _ z)), List.set_comm]
          exact fun z => hu (z ▸ List.mem_cons_self ..)
      rw [comm vs σ hv, List.set_set]
theorem wipe_sub {is js : List Nat} : ∀ {σ τ : L2.St}, (∀ i ∈ is, i ∈ js) → wipe σ is = wipe τ is → wipe σ js = wipe τ js := by
  intro σ τ hs h
  have key : ∀ (us : List Nat) (τ : L2.St), (∀ i ∈ us, i ∈ js) → wipe (wipe τ us) js = wipe τ js := by
    intro us
    induction us with
    | nil => intro τ _; rfl
    | cons u us ih =>
      intro τ hu
      rw [wipe_cons, wipe_set (hu u (List.mem_cons_self ..)), ih τ fun i hi => hu i (List.mem_cons_of_mem _ hi)]
  rw [← key is σ hs, ← key is τ hs, h]
section
variable {X : Cx} {e : Expr} {es : List Expr} {pos : Pos} {is js : List Nat} {g : TGp} {gs : TGsp}
theorem pgp_name {i : Nat} {x : Str} (hN : X.N.Nodup) (hi : X.N[i]? = some x) (hx : L2.Loc X.env.scope x) (hf : X.fn x = true ∨ X.env.scope.names.lookup x = some .local := by first | exact .inl rfl | exact .inr rfl | assumption) : PGp X [i] (.Name x pos) (gN i) :=
  PG.imp (pg_name hN hi hx hf) fun v σ H Q ⟨w, e, B, ρ, d, R0, R, r, h, k⟩ => e ▸ k _ _ h w _ rfl (Ke.refl _ _) (R.setF r) (wipe_set (List.mem_singleton.mpr rfl))
theorem pgp_nil : PGsp X [] [] gNilP := PGs.imp pgs_nil fun vs σ H Q ⟨w, e, B, ρ, ds, R0, R, r, ⟨h1, h2⟩, k⟩ => by
  subst h1 e
  cases r
  exact ⟨rfl, k _ _ h2 w _ rfl (Ke.refl _ _) R rfl⟩
theorem pgp_cons (h1 : PGp X is e g) (h2 : PGsp X js es gs) (hs : (assignEach (e :: es) X.env).map (·.2) = assign e X.env :: (assignEach es X.env).map (·.2) := by rfl) : PGsp X (is ++ js) (e :: es) (gConsP g gs) := PGs.imp (pgs_cons h1 h2 hs) fun vs σ H Q ⟨w, e, B, ρ, ds, R0, R, r, ⟨d, ds', e1, h⟩, k⟩ => by
  subst e e1
  cases r with
  | cons r1 r2 =>
    refine ⟨_, _, rfl, w, rfl, B, ρ, d, _, R, r1, h, fun ρ1 M1 q w1 σ1 e1 k1 R1 hw1 => ?_⟩
    subst e1
    exact ⟨w1, rfl, B, ρ1, ds', R0, R1, r2.ke k1, q, fun ρ2 M2 q2 w2 σ2 e2 k2 R2 hw2 => k _ _ q2 w2 σ2 e2 (k1.trans k2) R2 ((wipe_sub (fun i hi => List.mem_append_right _ hi) hw2).trans (wipe_sub (fun i hi => List.mem_append_left _ hi) hw1))⟩
theorem pgp_tup {n k : Nat} (hc : X.calm = true) (h : PGsp X is es gs) (hn : (assignEach es X.env).length = n := by rfl) (hst : (assignEach es X.env).findIdx? (·.1) = none := by rfl) : PGp X is (.Tuple es k pos) (gT n gs) :=
  PG.imp (pg_tup hc h hn hst) fun v σ H Q ⟨w, e, B, ρ, d, R0, R, r, h, k⟩ => by
    subst e
    unfold gT at h
    split at h
    · cases r with
      | tup hp r => exact ⟨_, _, rfl, SqT.of hp, by rw [r.len]; exact h.1, w, rfl, B, ρ, _, R0, R, r, h.2, k⟩
      | tupK hp r => exact ⟨_, _, rfl, .inr hp.1, by rw [r.len]; exact h.1, w, rfl, B, ρ, _, R0, R, r, h.2, k⟩
    · exact h.elim
end
def sAsg (te : TEp) (g : TGp) : TSp := fun E D ρ M => te ρ M E fun d ρ' M' => g d ρ' M' D.nx
section
variable {W : WX} {m : Bool} {X : Cx} {tg e : Expr} {te : TEp} {g : TGp} {is : List Nat} {pos : Pos}
theorem s_asg (he : PEp W X e te) (hg : PGp X is tg g) (hs : swapsWithSole [tg] e pos.line X.env = pure false := by rfl) (hw : swappedStores [tg] e X.env = pure none := by rfl) (ha : (assignEach [tg] X.env).map (·.2) = [assign tg X.env] := by rfl) : PSp W m X (.Assign [tg] e pos) (sAsg te g) := PS.imp (ps_asg he hg hs hw ha) fun D σ H ⟨w, e, B, ρ, Dp, E0, R, h, d, x⟩ =>
  ⟨w, e, B, ρ, _, E0, R, h, fun v ρ' M' q w' u e' k' R' r' => ⟨w', rfl, B, ρ', v, Dp.nx, R', r', e' ▸ q, fun ρ2 M2 q2 w2 σ2 e2 k2 R2 _ => d.nx ρ2 M2 q2 w2 σ2 e2 (k'.trans k2) R2⟩, x.lx⟩
end
end CM

/-! the pure layer: loops, comprehensions, stores -/
namespace CM
open PySem PySem.Spec PyProof.Rows L2
abbrev TItp := PSt → PHp → XP → (List D → (PHp → Prop) → PSt → PHp → Prop) → Prop
structure WalkP (K : PySem.W.Frag) (mg : Str → Option Value) (w : Wd) (J : It) (ds : List D) (chk : PHp → Prop) : Prop where
  go : ∀ i w1, w.ke w1 → w1.Ok K mg → chk w1.M → i < ds.length → J.go i w1.H
  stop : ∀ w1, w.ke w1 → w1.Ok K mg → chk w1.M → J.stop ds.length w1.H
  yld : ∀ i w1 x H', w.ke w1 → w1.Ok K mg → chk w1.M → i < ds.length → J.yld i w1.H x H' → ∃ d w2, ds[i]? = some d ∧ w2.H = H' ∧ w2.M = w1.M ∧ w1.ke w2 ∧ (∀ B ρ σ, Rl K mg B w1 ρ σ → Rl K mg B w2 ρ σ) ∧ Rep K mg w2.Z w2.H x d
def LI (K : PySem.W.Frag) (mg : Str → Option Value) (W : WX) (t : TItp) : TI := fun σ H R => ∃ w, w.H = H ∧ ∃ (B : Bse) (ρ : PSt) (Q0 : List D → (PHp → Prop) → PSt → PHp → Prop) (E0 : XP), Rl K mg B w ρ σ ∧ t ρ w.M E0 Q0 ∧
  (∀ ds chk ρ' M', Q0 ds chk ρ' M' → ∀ w' J, w'.M = M' → w.ke w' → Rl K mg B w' ρ' σ → WalkP K mg w' J ds chk → R J w'.H) ∧ LX K mg W B w σ E0
abbrev PIp' (W : WX) (X : Cx) (tg e : Expr) (t : TItp) : Prop := PI X tg e (LI X.K X.mg W t)
theorem PI.imp {X : Cx} {tg e : Expr} {t t' : TI} (h : PI X tg e t) (hi : ∀ σ H Q, t' σ H Q → t σ H Q) : PI X tg e t' := ⟨fun pins s σ H Q I q => h.run pins s σ H Q I (hi _ _ _ q)⟩
def noChk : PHp → Prop := fun _ => True
def iL (t : TEp) : TItp := fun ρ M E Q => t ρ M E fun d ρ' M' => match d with
  | .lst ds => Q ds noChk ρ' M'
  | .ref a => ∃ ds, M' a = some (.lst ds) ∧ Q ds (fun M => M a = some (.lst ds)) ρ' M'
  | _ => False
def iT (t : TEp) : TItp := fun ρ M E Q => t ρ M E fun d ρ' M' => match d with
  | .tup ds => Q ds noChk ρ' M'
  | _ => False
def iS (t : TEp) : TItp := fun ρ M E Q => t ρ M E fun d ρ' M' => match d with
  | .str l => Q (l.map fun c => .str [c]) noChk ρ' M'
  | _ => False
def rangeD (lo : Int) (n : Nat) : List D := (List.range n).map fun i => .int (lo + (i : Nat))
def iR1 (ta : TAp) : TItp := fun ρ M E Q => ta ρ M E fun ds ρ' M' => match ds with
  | [.int j] => (-(2 ^ 62) ≤ j ∧ j < 2 ^ 62) ∧ Q (rangeD 0 j.toNat) noChk ρ' M'
  | _ => False
def iR2 (ta : TAp) : TItp := fun ρ M E Q => ta ρ M E fun ds ρ' M' => match ds with
  | [.int i, .int j] => (-(2 ^ 62) ≤ i ∧ i < 2 ^ 62 ∧ -(2 ^ 62) ≤ j ∧ j < 2 ^ 62) ∧ Q (rangeD i (j - i).toNat) noChk ρ' M'
  | _ => False
section
variable {K : PySem.W.Frag} {mg : Str → Option Value} {w : Wd}
theorem walkP_same {J : It} {ds : List D} {chk : PHp → Prop} (h1 : ∀ i w1, w.ke w1 → w1.Ok K mg → chk w1.M → i < ds.length → J.go i w1.H) (h2 : ∀ w1, w.ke w1 → w1.Ok K mg → chk w1.M → J.stop ds.length w1.H)
    (h3 : ∀ i w1 x H', w.ke w1 → w1.Ok K mg → chk w1.M → i < ds.length → J.yld i w1.H x H' → H' = w1.H ∧ ∃ d, ds[i]? = some d ∧ Rep K mg w1.Z w1.H x d) : WalkP K mg w J ds chk :=
  ⟨h1, h2, fun i w1 x H' k o c hi y => by
    obtain ⟨e, d, hd, r⟩ := h3 i w1 x H' k o c hi y
    exact ⟨d, w1, hd, e.symm, rfl, Ke.refl _ _, fun _ _ _ R => R, r⟩⟩
theorem walkP_lst {a : Addr} {ds : List D} {chk : PHp → Prop} (h : ∀ w1, w.ke w1 → w1.Ok K mg → chk w1.M → ∃ vs, w1.H a = some (.lst vs) ∧ Reps K mg w1.Z w1.H vs ds) : WalkP K mg w (Itl K a) ds chk := by
  refine walkP_same (fun i w1 k o c hi => ?_) (fun w1 k o c => ?_) fun i w1 x H' k o c hi y => ?_
  · obtain ⟨vs, hv, r⟩ := h w1 k o c
    rw [← r.len] at hi
    exact ⟨vs, vs[i], SqL.of hv, by simp [hi]⟩
  · obtain ⟨vs, hv, r⟩ := h w1 k o c
    exact ⟨vs, SqL.of hv, by rw [r.len]; exact Nat.le_refl _⟩
  · obtain ⟨vs, hv, r⟩ := h w1 k o c
    refine ⟨y.1, ?_⟩
    obtain ⟨d, hd, rd⟩ := r.getV (y.2 vs (SqL.of hv))
    exact ⟨d, hd, rd⟩
theorem walkP_tup {a : Addr} {vs : List V} {ds : List D} (hv : w.H a = some (.tup vs) ∨ WrT K a vs) (r : Reps K mg w.Z w.H vs ds) : WalkP K mg w (Itt K a) ds noChk := by
  have hs : ∀ w1 : Wd, w.ke w1 → SqT K w1.H a vs := fun w1 k => hv.elim (fun h => SqT.of (k.tup a vs h)) fun h => .inr h.1
  refine walkP_same (fun i w1 k o c hi => ?_) (fun w1 k o c => ?_) fun i w1 x H' k o c hi y => ?_
  · rw [← r.len] at hi
    exact ⟨vs, vs[i], hs w1 k, by simp [hi]⟩
  · exact ⟨vs, hs w1 k, by rw [r.len]; exact Nat.le_refl _⟩
  · refine ⟨y.1, ?_⟩
    obtain ⟨d, hd, rd⟩ := r.getV (y.2 vs (hs w1 k))
    exact ⟨d, hd, rd.ke k⟩
theorem walkP_str (l : List Nat) : WalkP K mg w (Its (sL l)) (l.map fun c => .str [c]) noChk := by
  have hn : (sL l).cps.size = l.length := by simp
  refine walkP_same (fun i w1 k o c hi => ?_) (fun w1 k o c => ?_) fun i w1 x H' k o c hi y => ?_
  · rw [List.length_map, ← hn] at hi
    exact hi
  · rw [List.length_map, ← hn]
    exact Nat.le_refl _
  · obtain ⟨h1, c, hc, rfl⟩ := (walk_str (z := sL l)).yields i w1.H x H' (by rw [hn]; rw [List.length_map] at hi; exact hi) trivial y
    refine ⟨h1, .str [c], ?_, .str [c]⟩
    rw [List.getElem?_map]
    have : l[i]? = some c := by simpa using hc
    rw [this]; rfl
theorem walkP_rng (lo : Int) (n : Nat) : WalkP K mg w (Itr lo n) (rangeD lo n) noChk := by
  refine walkP_same (fun i w1 k o c hi => ?_) (fun w1 k o c => ?_) fun i w1 x H' k o c hi y => ?_
  · show i < n
    simpa [rangeD] using hi
  · show n ≤ (rangeD lo n).length
    simp [rangeD]
  · obtain ⟨h1, rfl⟩ := y
    have hi : i < n := by simpa [rangeD] using hi
    exact ⟨h1, .int (lo + i), by simp [rangeD, hi], .int _⟩
end
section
variable {W : WX} {X : Cx} {tg e : Expr} {es : List Expr} {t : TEp} {ta : TAp} {p pos : Pos}
theorem ip_lst (h : PEp W X e t) : PIp' W X tg e (iL t) := PI.imp (pi_list h) fun σ H Q ⟨w, e, B, ρ, Q0, E0, R, h, k, x⟩ =>
  ⟨w, e, B, ρ, _, E0, R, h, fun d ρ' M' q w' v e' k' R' r' => by
    split at q
    · cases r' with
      | lst z hv r => exact ⟨_, rfl, ⟨_, SqL.of hv⟩, k _ _ ρ' M' q w' _ e' k' R' (walkP_lst fun w1 k1 _ _ => ⟨_, k1.lst _ _ z hv, r.ke k1⟩)⟩
    · rename_i a
      obtain ⟨ds, hm, q⟩ := q
      subst e'
      cases r'
      obtain ⟨_, vs, hv, r⟩ := R'.ok.cells a _ hm
      exact ⟨_, rfl, ⟨_, SqL.of hv⟩, k _ _ ρ' _ q w' _ rfl k' R' (walkP_lst fun w1 k1 o1 c1 => by
        obtain ⟨_, vs, hv, r⟩ := o1.cells a _ c1
        exact ⟨vs, hv, r⟩)⟩
    · exact q.elim, x⟩
theorem ip_tup (h : PEp W X e t) : PIp' W X tg e (iT t) := PI.imp (pi_tup h) fun σ H Q ⟨w, e, B, ρ, Q0, E0, R, h, k, x⟩ =>
  ⟨w, e, B, ρ, _, E0, R, h, fun d ρ' M' q w' v e' k' R' r' => by
    split at q
    · cases r' with
      | tup hv r => exact ⟨_, rfl, ⟨_, SqT.of hv⟩, k _ _ ρ' M' q w' _ e' k' R' (walkP_tup (.inl hv) r)⟩
      | tupK hv r => exact ⟨_, rfl, ⟨_, .inr hv.1⟩, k _ _ ρ' M' q w' _ e' k' R' (walkP_tup (.inr hv) r)⟩
    · exact q.elim, x⟩
theorem ip_str (h : PEp W X e t) : PIp' W X tg e (iS t) := PI.imp (pi_str h) fun σ H Q ⟨w, e, B, ρ, Q0, E0, R, h, k, x⟩ =>
  ⟨w, e, B, ρ, _, E0, R, h, fun d ρ' M' q w' v e' k' R' r' => by
    split at q
    · cases r'
      exact ⟨_, rfl, k _ _ ρ' M' q w' _ e' k' R' (walkP_str _)⟩
    · exact q.elim, x⟩
theorem ip_range1 (hg : Gl X "range") (hm : X.mg "range" = none) (h : PAp W X [e] ta) (hs : starEach [e] X.env = [(false, eval e X.env)] := by rfl) : PIp' W X tg (.Call (.Name "range" p) [e] [] pos) (iR1 ta) := PI.imp (pi_range1 hg hm h hs) fun σ H Q ⟨w, e, B, ρ, Q0, E0, R, h, k, x⟩ =>
  ⟨w, e, B, ρ, _, E0, R, h, fun ds ρ' M' q w' vs e' k' R' r' => by
    split at q
    · cases r' with
      | cons r1 r2 =>
        cases r1; cases r2
        exact ⟨_, rfl, q.1.1, q.1.2, k _ _ ρ' M' q.2 w' _ e' k' R' (walkP_rng _ _)⟩
    · exact q.elim, x⟩
theorem ip_range2 {b : Expr} (hg : Gl X "range") (hm : X.mg "range" = none) (h : PAp W X [e, b] ta) (hs : starEach [e, b] X.env = [(false, eval e X.env), (false, eval b X.env)] := by rfl) (hs2 : starEach [b] X.env = [(false, eval b X.env)] := by rfl) :
    PIp' W X tg (.Call (.Name "range" p) [e, b] [] pos) (iR2 ta) := PI.imp (pi_range2 hg hm h hs hs2) fun σ H Q ⟨w, e, B, ρ, Q0, E0, R, h, k, x⟩ =>
  ⟨w, e, B, ρ, _, E0, R, h, fun ds ρ' M' q w' vs e' k' R' r' => by
    split at q
    · cases r' with
      | cons r1 r2 =>
        cases r2 with
        | cons r2 r3 =>
          cases r1; cases r2; cases r3
          exact ⟨_, _, rfl, q.1, k _ _ ρ' M' q.2 w' _ e' k' R' (walkP_rng _ _)⟩
    · exact q.elim, x⟩
end
/-! ### for -/
def forP (g : TGp) (tb : TSp) (chk : PHp → Prop) (E : XP) (D : EndsP) : List CM.D → PSt → PHp → Prop
  | [], ρ, M => chk M ∧ D.nx ρ M
  | x :: xs, ρ, M => chk M ∧ g x ρ M fun ρ2 M2 => tb E { D with nx := forP g tb chk E D xs, ct := forP g tb chk E D xs, bk := D.nx } ρ2 M2
def sFor (it : TItp) (g : TGp) (tb : TSp) : TSp := fun E D ρ M => it ρ M E fun ds chk ρ' M' => forP g tb chk E D ds ρ' M'
section
variable {W : WX} {m : Bool} {X : Cx} {tg iter : Expr} {body : List Stmt} {it : TItp} {g : TGp} {tb : TSp} {is : List Nat} {pos : Pos}
theorem s_for (hp : PassesOwn (model X.prog X.w) X.A X.env X.xe) (hc : X.calm = true) (hi : PIp' W X tg iter it) (hg : PGp X is tg g) (hb : PSsp W m X body tb) (hs : ∀ x, foldedSetIterable iter X.env x = pure x := by intro _; rfl) : PSp W m X (.For tg iter body [] pos) (sFor it g tb) :=
  PS.imp (ps_for hp hc hi hg hb hs) fun D σ H ⟨w, e, B, ρ, Dp, E0, R, h, d, x⟩ =>
    ⟨w, e, B, ρ, _, E0, R, h, fun ds chk ρ1 M1 q w1 J e1 k1 R1 wk => by
      subst e1
      refine ⟨fun i m σ' H' => m = ds.length - i ∧ i ≤ ds.length ∧ ∃ w2 ρ2, w2.H = H' ∧ w1.ke w2 ∧ Rl X.K X.mg B w2 ρ2 σ' ∧ forP g tb chk E0 Dp (ds.drop i) ρ2 w2.M, ⟨ds.length, by simp, Nat.zero_le _, w1, ρ1, rfl, Ke.refl _ _, R1, q⟩, ?_⟩
      rintro i mm σ2 H2 ⟨rfl, hi, w2, ρ2, rfl, k2, R2, q2⟩
      by_cases hlt : i < ds.length
      · right
        rw [List.drop_eq_getElem_cons hlt] at q2
        obtain ⟨hc2, q2⟩ := q2
        refine ⟨wk.go i w2 k2 R2.ok hc2 hlt, _, fun σ' H' h' => ⟨ds.length - (i + 1), by omega, rfl, hlt, h'⟩, fun y H3 hy => ?_⟩
        obtain ⟨dd, w3, hd, rfl, e3, k3, hR3, r3⟩ := wk.yld i w2 y H3 k2 R2.ok hc2 hlt hy
        have hd' : dd = ds[i] := by
          rw [List.getElem?_eq_getElem hlt] at hd
          exact (Option.some.inj hd).symm
        subst hd'
        refine ⟨w3, rfl, B, ρ2, _, _, hR3 B ρ2 σ2 R2, r3, e3 ▸ q2, fun ρ4 M4 q4 w4 σ4 e4 k4 R4 _ => ?_⟩
        subst e4
        have k14 := (k2.trans k3).trans k4
        refine ⟨w4, rfl, B, ρ4, _, E0, R4, q4, ⟨fun ρ5 M5 q5 w5 σ5 e5 k5 R5 => ?_, fun ρ5 M5 q5 w5 σ5 e5 k5 R5 => ?_, fun ρ5 M5 q5 w5 σ5 e5 k5 R5 => ?_, fun d5 ρ5 M5 q5 w5 σ5 v5 e5 k5 R5 r5 => ?_⟩, (x.ke k1).ke k14⟩
        · exact ⟨w5, ρ5, rfl, k14.trans k5, R5, e5 ▸ q5⟩
        · exact d.nx ρ5 M5 q5 w5 σ5 e5 ((k1.trans k14).trans k5) R5
        · exact ⟨w5, ρ5, rfl, k14.trans k5, R5, e5 ▸ q5⟩
        · exact d.rt d5 ρ5 M5 q5 w5 σ5 v5 e5 ((k1.trans k14).trans k5) R5 r5
      · left
        have e : i = ds.length := by omega
        subst e
        rw [List.drop_length] at q2
        exact ⟨wk.stop w2 k2 R2.ok q2.1, d.nx ρ2 _ q2.2 w2 σ2 rfl (k1.trans k2) R2⟩, x.lx⟩
/-- by an invariant over the turns -/
theorem forP_inv {chk : PHp → Prop} {E : XP} {D : EndsP} {ds : List CM.D} {ρ : PSt} {M : PHp} (I : Nat → PSt → PHp → Prop) (h0 : I 0 ρ M) (hc : ∀ i ρ M, i ≤ ds.length → I i ρ M → chk M)
    (hs : ∀ i x ρ M (N : PSt → PHp → Prop), ds[i]? = some x → I i ρ M → (∀ ρ' M', I (i + 1) ρ' M' → N ρ' M') → g x ρ M fun ρ2 M2 => tb E { D with nx := N, ct := N, bk := D.nx } ρ2 M2) (hd : ∀ ρ M, I ds.length ρ M → D.nx ρ M) : forP g tb chk E D ds ρ M := by
  have key : ∀ (n i : Nat), i + n = ds.length → ∀ ρ M, I i ρ M → forP g tb chk E D (ds.drop i) ρ M := by
    intro n
    induction n with
    | zero =>
      intro i hi ρ M h
      have e : i = ds.length := by omega
      subst e
      rw [List.drop_length]
      exact ⟨hc _ _ _ (Nat.le_refl _) h, hd _ _ h⟩
    | succ n ih =>
      intro i hi ρ M h
      have hlt : i < ds.length := by omega
      rw [List.drop_eq_getElem_cons hlt]
      exact ⟨hc i ρ M (by omega) h, hs i _ ρ M _ (List.getElem?_eq_getElem hlt) h fun ρ' M' h' => ih (i + 1) (by omega) ρ' M' h'⟩
  exact key ds.length 0 (by omega) ρ M h0
end
/-! ### while -/
def sWhile (c : TTp) (tb : TSp) : TSp := fun E D ρ M => ∃ I : Nat → PSt → PHp → Prop, (∃ n, I n ρ M) ∧ ∀ n ρ M, I n ρ M →
  c ρ M E fun b ρ1 M1 => if b = true then ∃ N : PSt → PHp → Prop, (∀ ρ' M', N ρ' M' → ∃ n', n' < n ∧ I n' ρ' M') ∧ tb E { D with nx := N, ct := N, bk := D.nx } ρ1 M1 else D.nx ρ1 M1
section
variable {W : WX} {m : Bool} {X : Cx} {c : Expr} {body : List Stmt} {tc : TTp} {tb : TSp} {pos : Pos}
theorem s_while (hp : PassesOwn (model X.prog X.w) X.A X.env X.xe) (hc : PTp W X c tc) (hb : PSsp W m X body tb) : PSp W m X (.While c body [] pos) (sWhile tc tb) :=
  PS.imp (ps_while hp hc hb) fun D σ H ⟨w, e, B, ρ, Dp, E0, R, ⟨I, ⟨n0, h0⟩, h⟩, d, x⟩ => by
    subst e
    refine ⟨fun n σ' H' => ∃ w2 ρ2, w2.H = H' ∧ w.ke w2 ∧ Rl X.K X.mg B w2 ρ2 σ' ∧ I n ρ2 w2.M, ⟨n0, w, ρ, rfl, Ke.refl _ _, R, h0⟩, ?_⟩
    rintro n σ2 H2 ⟨w2, ρ2, rfl, k2, R2, q2⟩
    refine ⟨w2, rfl, B, ρ2, _, E0, R2, h n ρ2 _ q2, fun b ρ3 M3 q3 w3 e3 k3 R3 => ?_, (x.ke k2).lx⟩
    subst e3
    split
    · rename_i hb
      rw [if_pos hb] at q3
      obtain ⟨N, hN, q3⟩ := q3
      have k13 := k2.trans k3
      refine ⟨fun σ' H' => ∃ w4 ρ4, w4.H = H' ∧ w.ke w4 ∧ Rl X.K X.mg B w4 ρ4 σ' ∧ N ρ4 w4.M, fun σ' H' ⟨w4, ρ4, e4, k4, R4, n4⟩ => ?_, w3, rfl, B, ρ3, _, E0, R3, q3, ⟨fun ρ5 M5 q5 w5 σ5 e5 k5 R5 => ?_, fun ρ5 M5 q5 w5 σ5 e5 k5 R5 => ?_, fun ρ5 M5 q5 w5 σ5 e5 k5 R5 => ?_, fun d5 ρ5 M5 q5 w5 σ5 v5 e5 k5 R5 r5 => ?_⟩, x.ke k13⟩
      · obtain ⟨n', h1, h2⟩ := hN ρ4 _ n4
        exact ⟨n', h1, w4, ρ4, e4, k4, R4, h2⟩
      · exact ⟨w5, ρ5, rfl, k13.trans k5, R5, e5 ▸ q5⟩
      · exact d.nx ρ5 M5 q5 w5 σ5 e5 (k13.trans k5) R5
      · exact ⟨w5, ρ5, rfl, k13.trans k5, R5, e5 ▸ q5⟩
      · exact d.rt d5 ρ5 M5 q5 w5 σ5 v5 e5 (k13.trans k5) R5 r5
    · rename_i hb
      rw [if_neg hb] at q3
      exact d.nx ρ3 _ q3 w3 σ2 rfl (k2.trans k3) R3
end
/-! ### comprehensions -/
def noX : XP := fun _ _ _ _ => False
def noW : WX := fun _ _ _ _ => False
def wipeP (ρ : PSt) : List Nat → PSt
  | [] => ρ
  | v :: vs => (wipeP ρ vs).set v none
def compP (g : TGp) (tt : TTp) (te : TEp) (vs : List Nat) (chk : PHp → Prop) (Q : List D → PSt → PHp → Prop) : List D → List D → PSt → PHp → Prop
  | [], acc, ρ, M => chk M ∧ Q acc (wipeP ρ vs) M
  | x :: xs, acc, ρ, M => chk M ∧ g x (wipeP ρ vs) M fun ρ2 M2 => tt ρ2 M2 noX fun b ρ3 M3 => if b = true then te ρ3 M3 noX fun y ρ4 M4 => compP g tt te vs chk Q xs (acc ++ [y]) ρ4 M4 else compP g tt te vs chk Q xs acc ρ3 M3
def pLc (it : TItp) (g : TGp) (tt : TTp) (te : TEp) (vs : List Nat) : TEp := fun ρ M E Q => it ρ M E fun ds chk ρ' M' => ds.length ≤ 16777216 ∧ compP g tt te vs chk (fun acc ρ2 M2 => Q (.lst acc) ρ2 M2) ds [] ρ' M'
def tYesP : TTp := fun ρ M E Q => Q true ρ M
theorem wipe_not {vs : List Nat} {σ : L2.St} {j : Nat} (h : j ∉ vs) : (wipe σ vs)[j]? = σ[j]? := by
  induction vs with
  | nil => rfl
  | cons v vs ih =>
    rw [wipe_cons, List.getElem?_set_ne (fun z : v = j => h (by rw [← z]; exact List.mem_cons_self ..))]
    exact ih fun z => h (List.mem_cons_of_mem _ z)
theorem wipeP_not {vs : List Nat} {ρ : PSt} {j : Nat} (h : j ∉ vs) : (wipeP ρ vs)[j]? = ρ[j]? := by
  induction vs with
  | nil => rfl
  | cons v vs ih =>
    show ((wipeP ρ vs).set v none)[j]? = _
    rw [List.getElem?_set_ne (fun z : v = j => h (by rw [← z]; exact List.mem_cons_self ..))]
    exact ih fun z => h (List.mem_cons_of_mem _ z)
theorem wipeP_none {vs : List Nat} {ρ : PSt} {j : Nat} {s : SV} (h : (wipeP ρ vs)[j]? = some (some s)) : j ∉ vs := by
  induction vs with
  | nil => exact fun z => by cases z
  | cons v vs ih =>
    have h : ((wipeP ρ vs).set v none)[j]? = some (some s) := h
    intro z
    by_cases hv : v = j
    · subst hv
      rw [List.getElem?_set] at h
      simp only [if_true] at h
      split at h
      · cases h
      · cases h
    · rw [List.getElem?_set_ne hv] at h
      rcases List.mem_cons.mp z with e | e
      · exact hv e.symm
      · exact ih h e
theorem wipe_len {vs : List Nat} {σ : L2.St} : (wipe σ vs).length = σ.length := by
  induction vs with
  | nil => rfl
  | cons v vs ih => rw [wipe_cons, List.length_set, ih]
theorem wipeP_len {vs : List Nat} {ρ : PSt} : (wipeP ρ vs).length = ρ.length := by
  induction vs with
  | nil => rfl
  | cons v vs ih =>
    show ((wipeP ρ vs).set v none).length = _
    rw [List.length_set, ih]
section
variable {K : PySem.W.Frag} {mg : Str → Option Value} {B : Bse} {w : Wd} {ρ : PSt} {σ τ : L2.St} {vs : List Nat} {p : Addr} {d : D} {o o' : HO}
/-- the slots at vs are known nowhere, the others stand alike -/
theorem Rl.like (R : Rl K mg B w ρ σ) (hl : τ.length = σ.length) (h : ∀ j, j ∉ vs → τ[j]? = σ[j]?) : Rl K mg B w (wipeP ρ vs) τ := by
  refine ⟨R.ok0, R.ok, R.le, ⟨by rw [wipeP_len, hl]; exact R.sl.len, fun i d e => ?_, fun i d e => ?_, fun i j q a b e1 e2 => ?_⟩, fun q hq => ?_⟩
  · have n := wipeP_none e
    rw [wipeP_not n] at e
    rw [h i n]
    exact R.sl.fz i d e
  · have n := wipeP_none e
    rw [wipeP_not n] at e
    rw [h i n]
    exact R.sl.own i d e
  · have n1 := wipeP_none e1
    have n2 := wipeP_none e2
    rw [wipeP_not n1] at e1
    rw [wipeP_not n2] at e2
    rw [h i n1, h j n2]
    exact R.sl.dis i j q a b e1 e2
  · obtain ⟨h1, h2, h3, h4, h5⟩ := R.tmp q hq
    refine ⟨h1, h2, h3, h4, fun i d e => ?_⟩
    have n := wipeP_none e
    rw [wipeP_not n] at e
    rw [h i n]
    exact h5 i d e
theorem wipeP_wipeP : wipeP (wipeP ρ vs) vs = wipeP ρ vs := by
  apply List.ext_getElem?
  intro j
  by_cases h : j ∈ vs
  · have e : ∀ (us : List Nat) (τ : PSt), j ∈ us → (wipeP τ us)[j]? = if j < τ.length then some none else none := by
      intro us
      induction us with
      | nil => intro τ z; cases z
      | cons u us ih =>
        intro τ z
        show ((wipeP τ us).set u none)[j]? = _
        by_cases hu : u = j
        · subst hu
          rw [List.getElem?_set]
          simp only [if_true, wipeP_len]
        · rw [List.getElem?_set_ne hu]
          rcases List.mem_cons.mp z with e | e
          · exact absurd e.symm hu
          · exact ih τ e
    rw [e vs _ h, e vs _ h, wipeP_len]
  · rw [wipeP_not h]
theorem Rl.aside (R : Rl K mg B w ρ σ) (h1 : w.H p = some o) (h2 : w.M p = none) (h3 : ¬ w.Z p) (h4 : B.w.H p = none) (h5 : ∀ (i : Nat) (d : D), ρ[i]? = some (some (.own d)) → σ[i]? ≠ some (some (.ref p))) : Rl K mg ⟨B.w, (p, o) :: B.T⟩ w ρ σ :=
  ⟨R.ok0, R.ok, R.le, R.sl, fun q hq => by
    rcases List.mem_cons.mp hq with rfl | hq
    · exact ⟨h1, h2, h3, h4, h5⟩
    · exact R.tmp q hq⟩
theorem Rl.unaside (R : Rl K mg ⟨B.w, (p, o) :: B.T⟩ w ρ σ) : Rl K mg B w ρ σ := ⟨R.ok0, R.ok, R.le, R.sl, fun q hq => R.tmp q (List.mem_cons_of_mem _ hq)⟩
theorem Rl.wrT (R : Rl K mg ⟨B.w, (p, o) :: B.T⟩ w ρ σ) (hn : ∀ q ∈ B.T, q.1 ≠ p) (ht : ∀ vs, o ≠ .tup vs) (hx : ∀ fs, o ≠ .xd fs) (hfz : ∀ ob u, o ≠ .frz ob u) (he : ∀ φ, o ≠ .ext φ) (ht' : ∀ vs, o' ≠ .tup vs) : w.ke { w with H := upd w.H p o' } ∧ Rl K mg ⟨B.w, (p, o') :: B.T⟩ { w with H := upd w.H p o' } ρ σ := by
  obtain ⟨h1, h2, h3, h4, h5⟩ := R.tmp (p, o) (List.mem_cons_self ..)
  have h1 : w.H p = some o := h1
  have k : w.ke { w with H := upd w.H p o' } := write_ke R.ok ⟨o, h1, ht⟩ (fun fs z => hx fs (Option.some.inj (h1.symm.trans z))) (fun ob vs z => hfz ob _ (Option.some.inj (h1.symm.trans z))) (fun φ z => he φ (Option.some.inj (h1.symm.trans z))) h3
  refine ⟨k, R.ok0, ⟨fun a e g => ?_, fun a z => ?_, fun a vs g => ?_⟩, ⟨R.le.sub, fun a x g m => ?_, fun a g => ?_, R.le.newc, R.le.newz⟩, ⟨R.sl.len, fun j e g => ?_, fun j e g => ?_, R.sl.dis⟩, fun q hq => ?_⟩
  · obtain ⟨g1, g2⟩ := R.ok.cells a e g
    refine ⟨g1, g2.ke k (upd_ne ?_)⟩
    rintro rfl
    have g : w.M a = some e := g
    rw [h2] at g; cases g
  · show upd w.H p o' a ≠ none
    rw [upd_ne (fun q : a = p => h3 (by rw [← q]; exact z))]
    exact R.ok.zin a z
  · have g : upd w.H p o' a = some (.tup vs) := g
    by_cases ha : a = p
    · subst ha
      rw [upd_same] at g
      exact absurd (Option.some.inj g) (ht' vs)
    · rw [upd_ne ha] at g
      exact R.ok.ztup a vs g
  · show upd w.H p o' a = some x
    rw [upd_ne (fun q => by rw [q] at g; have g : B.w.H p = some x := g; rw [h4] at g; cases g)]
    exact R.le.frame a x g m
  · show upd w.H p o' a ≠ none
    unfold upd
    split
    · exact fun z => by cases z
    · exact R.le.there a g
  · obtain ⟨v, g1, g2⟩ := R.sl.fz j e g
    exact ⟨v, g1, g2.ke k⟩
  · obtain ⟨q, g1, g2, g3, g4, g5⟩ := R.sl.own j e g
    refine ⟨q, g1, g2.ke k (upd_ne ?_), g3, g4, g5⟩
    rintro rfl
    exact h5 j e g g1
  · rcases List.mem_cons.mp hq with rfl | hq
    · exact ⟨upd_same, h2, h3, h4, h5⟩
    · obtain ⟨g1, g2, g3, g4, g5⟩ := R.tmp q (List.mem_cons_of_mem _ hq)
      exact ⟨(upd_ne (hn q hq)).trans g1, g2, g3, g4, g5⟩
end
section
variable {K : PySem.W.Frag} {mg : Str → Option Value} {W : WX} {σ : L2.St} {H : Hp} {Q : VK} {it : TItp} {g : TGp} {tt : TTp} {te : TEp} {vs : List Nat}
theorem lc_lift (h : LO K mg W (pLc it g tt te vs) σ H Q) : tLc (LI K mg W it) (LG K mg vs g) (LT K mg noW tt) (LE K mg noW te) vs σ H Q := by
  obtain ⟨w, e, B, ρ, Q0, E0, R, h, k, x⟩ := h
  refine ⟨w, e, B, ρ, _, E0, R, h, fun ds chk ρ1 M1 ⟨hlen, q⟩ w1 J e1 k1 R1 wk Dn hD => ?_, x⟩
  subst e1
  have nT : ∀ q ∈ B.T, q.1 ≠ Dn := fun q hq z => by
    obtain ⟨h1, _⟩ := R1.tmp q hq
    rw [z, hD] at h1; cases h1
  refine ⟨fun i m H' => m = ds.length - i ∧ i ≤ ds.length ∧ ∃ w2 ρ2 vacc acc, w2.H = H' ∧ w1.ke w2 ∧ Rl K mg ⟨B.w, (Dn, .lst vacc) :: B.T⟩ w2 (wipeP ρ2 vs) (wipe σ vs) ∧ Reps K mg w2.Z w2.H vacc acc ∧ acc.length ≤ i ∧ compP g tt te vs chk (fun acc ρ2 M2 => Q0 (.lst acc) ρ2 M2) (ds.drop i) acc ρ2 w2.M, ⟨ds.length, by simp, Nat.zero_le _, w1.lay Dn (.lst []), ρ1, [], [], rfl, lay_ke hD, ?_, .nil, Nat.le_refl _, q⟩, ?_⟩
  · have o := own_new (o := .lst []) (d := .lst []) R1 hD ⟨[], upd_same, .nil⟩
    have R2 := (R1.lay (o := .lst []) hD).aside (p := Dn) (o := .lst []) upd_same o.nm o.nz o.n0 o.dis
    exact R2.like wipe_len fun j hj => wipe_not hj
  · rintro i mm H2 ⟨rfl, hi, w2, ρ2, vacc, acc, rfl, k2, R2, r2, hl2, q2⟩
    by_cases hlt : i < ds.length
    · right
      rw [List.drop_eq_getElem_cons hlt] at q2
      obtain ⟨hc2, q2⟩ := q2
      refine ⟨wk.go i w2 k2 R2.ok hc2 hlt, _, fun H' h' => ⟨ds.length - (i + 1), by omega, rfl, hlt, h'⟩, fun y H3 hy => ?_⟩
      obtain ⟨dd, w3, hd, rfl, e3, k3, hR3, r3⟩ := wk.yld i w2 y H3 k2 R2.ok hc2 hlt hy
      have hd' : dd = ds[i] := by
        rw [List.getElem?_eq_getElem hlt] at hd
        exact (Option.some.inj hd).symm
      subst hd'
      refine ⟨w3, rfl, _, _, _, _, hR3 _ _ _ R2, r3, e3 ▸ q2, fun ρ4 M4 q4 w4 σ4 e4 k4 R4 hw4 => ⟨?_, ?_⟩⟩
      · have hww : wipe (wipe σ vs) vs = wipe σ vs := by
          apply List.ext_getElem?
          intro j
          by_cases hj : j ∈ vs
          · have e : ∀ (us : List Nat) (τ : L2.St), j ∈ us → (wipe τ us)[j]? = if j < τ.length then some none else none := by
              intro us
              induction us with
              | nil => intro τ z; cases z
              | cons u us ih =>
                intro τ z
                rw [wipe_cons]
                by_cases hu : u = j
                · subst hu
                  rw [List.getElem?_set]
                  simp only [if_true, wipe_len]
                · rw [List.getElem?_set_ne hu]
                  rcases List.mem_cons.mp z with e | e
                  · exact absurd e.symm hu
                  · exact ih τ e
            rw [e vs _ hj, e vs _ hj, wipe_len]
          · rw [wipe_not hj]
        rw [hw4, hww]
      · have hww4 : wipe σ4 vs = wipe (wipe σ vs) vs := hw4
        have alike : ∀ j, j ∉ vs → (wipe σ vs)[j]? = σ4[j]? := fun j hj =>
          (wipe_not (σ := wipe σ vs) hj).symm.trans ((congrArg (fun z : L2.St => z[j]?) hww4.symm).trans (wipe_not hj))
        have hlen4 : (wipe σ vs).length = σ4.length := (wipe_len (vs := vs) (σ := wipe σ vs)).symm.trans ((congrArg List.length hww4.symm).trans wipe_len)
        subst e4
        have k14 := (k2.trans k3).trans k4
        refine ⟨w4, rfl, _, ρ4, _, noX, R4, q4, fun b ρ5 M5 q5 w5 e5 k5 R5 => ?_, fun _ _ _ _ z => z.elim⟩
        subst e5
        split
        · rename_i hb
          rw [if_pos hb] at q5
          refine ⟨w5, rfl, _, ρ5, _, noX, R5, q5, fun y ρ6 M6 q6 w6 v6 e6 k6 R6 r6 => ?_, fun _ _ _ _ z => z.elim⟩
          subst e6
          have hD6 := (R6.tmp (Dn, .lst vacc) (List.mem_cons_self ..)).1
          have k26 := ((k3.trans k4).trans k5).trans k6
          have hvl := r2.len
          refine ⟨vacc, hD6, ?_, ?_⟩
          · show _ < 2 ^ 24
            omega
          · obtain ⟨k7, R7⟩ := R6.wrT (o' := .lst (vacc ++ [v6])) nT (fun _ z => by cases z) (fun _ z => by cases z) (fun _ _ z => by cases z) (fun _ z => by cases z) (fun _ z => by cases z)
            refine ⟨_, ρ6, vacc ++ [v6], acc ++ [y], rfl, ((k14.trans k5).trans k6).trans k7, R7.like hlen4 alike, (((r2.ke k26).app (.one r6))).ke k7, ?_, q6⟩
            rw [List.length_append]
            simp only [List.length_cons, List.length_nil]
            omega
        · rename_i hb
          rw [if_neg hb] at q5
          exact ⟨w5, ρ5, vacc, acc, rfl, k14.trans k5, R5.like hlen4 alike, r2.ke ((k3.trans k4).trans k5), by omega, q5⟩
    · left
      have e : i = ds.length := by omega
      subst e
      rw [List.drop_length] at q2
      obtain ⟨hc2, q2⟩ := q2
      refine ⟨wk.stop w2 k2 R2.ok hc2, ?_⟩
      obtain ⟨h1, h2, h3, h4, h5⟩ := R2.tmp (Dn, .lst vacc) (List.mem_cons_self ..)
      have R3 : Rl K mg B w2 (wipeP ρ2 vs) σ := by
        have := R2.unaside.like (vs := vs) (τ := σ) (by rw [wipe_len]) fun j hj => (wipe_not hj).symm
        rwa [wipeP_wipeP] at this
      refine k _ _ _ q2 w2 Dn rfl (k1.trans k2) R3 ⟨⟨vacc, h1, r2⟩, h3, h2, h4, fun j d e z => ?_, nT⟩
      have n := wipeP_none e
      exact h5 j d e (by rw [wipe_not n]; exact z)
end
end CM

/-! the pure layer: comprehensions as rules, stores, defs and calls -/
namespace CM
open PySem PySem.Spec PyProof.Rows L2
abbrev PTsp (W : WX) (X : Cx) (ifs : List Expr) (t : TTp) : Prop := PTs X ifs (LT X.K X.mg W t)
theorem PTs.imp {X : Cx} {e : List Expr} {t t' : TT} (h : PTs X e t) (hi : ∀ σ H Q, t' σ H Q → t σ H Q) : PTs X e t' := ⟨fun pins s σ H Q I q => h.run pins s σ H Q I (hi _ _ _ q)⟩
section
variable {W : WX} {m : Bool} {X : Cx} {elt tg iter c : Expr} {ifs : List Expr} {scope : Scope} {own : List (Str × Nat)} {pos spos : Pos} {it : TItp} {g : TGp} {tt : TTp} {te : TEp}
theorem ptsp_nil : PTsp W X [] tYesP := PTs.imp pts_nil fun σ H Q h => LT.yes h
theorem ptsp_one (h : PTp W X c tt) : PTsp W X [c] tt := pts_one h
theorem po_lc (hc : X.calm = true) (hN : X.N.Nodup) (hi : PIp' W X tg iter it) (ok : BlkOk X.N X.env.scope scope own)
    (hg : ∀ (s : Shared) (H : Hp) (C : Addr) (cl : List (Str × Addr)) (fp : List Addr), PGp (X.blk s H scope (compEnvC scope cl C X.env) fp) (own.map (·.2)) tg g) (ht : ∀ (s : Shared) (H : Hp) (C : Addr) (cl : List (Str × Addr)) (fp : List Addr), PTsp noW (X.blk s H scope (compEnvC scope cl C X.env) fp) ifs tt)
    (he : ∀ (s : Shared) (H : Hp) (C : Addr) (cl : List (Str × Addr)) (fp : List Addr), PEp noW (X.blk s H scope (compEnvC scope cl C X.env) fp) elt te) (hs : ∀ x, foldedSetIterable iter X.env x = pure x := by intro _; rfl) :
    PEo W X (.ListComp elt [⟨tg, iter, ifs, 0⟩] scope pos) (pLc it g tt te (own.map (·.2))) := PE.imp (pe_lc hc hN hi ok hg ht he hs) fun σ H Q h => lc_lift h
theorem s_setLc {i : Nat} {y : Str} {py : Pos} (hc : X.calm = true) (hN : X.N.Nodup) (hy : X.N[i]? = some y) (hyl : X.env.scope.names.lookup y = some .local)
    (hsw : swapsWith (.ListComp elt [⟨tg, iter, ifs, 0⟩] scope pos) (some (.Name y py)) spos.line X.env = pure true) (hi : PIp' W X tg iter it) (ok : BlkOk X.N X.env.scope scope own)
    (hg : ∀ (s : Shared) (H : Hp) (C : Addr) (cl : List (Str × Addr)) (fp : List Addr), PGp (X.blk s H scope (compEnvC scope cl C X.env) fp) (own.map (·.2)) tg g) (ht : ∀ (s : Shared) (H : Hp) (C : Addr) (cl : List (Str × Addr)) (fp : List Addr), PTsp noW (X.blk s H scope (compEnvC scope cl C X.env) fp) ifs tt)
    (he : ∀ (s : Shared) (H : Hp) (C : Addr) (cl : List (Str × Addr)) (fp : List Addr), PEp noW (X.blk s H scope (compEnvC scope cl C X.env) fp) elt te) (hs : ∀ x, foldedSetIterable iter X.env x = pure x := by intro _; rfl) :
    PSp W m X (.Assign [.Name y py] (.ListComp elt [⟨tg, iter, ifs, 0⟩] scope pos) spos) (sSet i (pLc it g tt te (own.map (·.2)))) := PS.imp (ps_setLc hc hN hy hyl hsw hi ok hg ht he hs) fun D σ H ⟨w, e, B, ρ, Dp, E0, R, h, d, x⟩ => by
  refine lc_lift ⟨w, e, B, ρ, _, E0, R, h, fun v ρ' M' q w' p e' k' R' o' => ?_, x.lx⟩
  obtain ⟨R2, r2⟩ := o'.freeze R'
  exact d.nx _ M' q (w'.frz p) _ e' (k'.trans (w'.frz_ke p)) (R2.setF r2)
theorem s_setLcO {i : Nat} {y : Str} {py : Pos} (hc : X.calm = true) (hN : X.N.Nodup) (hy : X.N[i]? = some y) (hyl : X.env.scope.names.lookup y = some .local)
    (hsw : swapsWith (.ListComp elt [⟨tg, iter, ifs, 0⟩] scope pos) (some (.Name y py)) spos.line X.env = pure true) (hi : PIp' W X tg iter it) (ok : BlkOk X.N X.env.scope scope own)
    (hg : ∀ (s : Shared) (H : Hp) (C : Addr) (cl : List (Str × Addr)) (fp : List Addr), PGp (X.blk s H scope (compEnvC scope cl C X.env) fp) (own.map (·.2)) tg g) (ht : ∀ (s : Shared) (H : Hp) (C : Addr) (cl : List (Str × Addr)) (fp : List Addr), PTsp noW (X.blk s H scope (compEnvC scope cl C X.env) fp) ifs tt)
    (he : ∀ (s : Shared) (H : Hp) (C : Addr) (cl : List (Str × Addr)) (fp : List Addr), PEp noW (X.blk s H scope (compEnvC scope cl C X.env) fp) elt te) (hs : ∀ x, foldedSetIterable iter X.env x = pure x := by intro _; rfl) :
    PSp W m X (.Assign [.Name y py] (.ListComp elt [⟨tg, iter, ifs, 0⟩] scope pos) spos) (sSetO i (pLc it g tt te (own.map (·.2)))) := PS.imp (ps_setLc hc hN hy hyl hsw hi ok hg ht he hs) fun D σ H ⟨w, e, B, ρ, Dp, E0, R, h, d, x⟩ =>
  lc_lift ⟨w, e, B, ρ, _, E0, R, h, fun v ρ' M' q w' p e' k' R' o' => d.nx _ M' q w' _ e' k' (R'.setO o'), x.lx⟩
/-- a comprehension whose items each come to something, changing nothing -/
theorem compP_fm {g : TGp} {tt : TTp} {te : TEp} {vs : List Nat} {chk : PHp → Prop} {Q : List D → PSt → PHp → Prop} {α : Type} (emb : α → D) (f : α → Option D) {ρ : PSt} {M : PHp} (hρ : wipeP ρ vs = ρ) (hc : chk M) :
    ∀ (l : List α) (acc : List D), (∀ a ∈ l, ∀ (N1 : D → PSt → PHp → Prop) (N2 : PSt → PHp → Prop), (∀ d ρ', f a = some d → wipeP ρ' vs = ρ → N1 d ρ' M) → (∀ ρ', f a = none → wipeP ρ' vs = ρ → N2 ρ' M) →
      g (emb a) ρ M fun ρ2 M2 => tt ρ2 M2 noX fun b ρ3 M3 => if b = true then te ρ3 M3 noX N1 else N2 ρ3 M3) →
    Q (acc ++ l.filterMap f) ρ M → compP g tt te vs chk Q (l.map emb) acc ρ M := by
  have key : ∀ (l : List α) (acc : List D) (ρ1 : PSt), wipeP ρ1 vs = ρ → (∀ a ∈ l, ∀ (N1 : D → PSt → PHp → Prop) (N2 : PSt → PHp → Prop), (∀ d ρ', f a = some d → wipeP ρ' vs = ρ → N1 d ρ' M) → (∀ ρ', f a = none → wipeP ρ' vs = ρ → N2 ρ' M) →
      g (emb a) ρ M fun ρ2 M2 => tt ρ2 M2 noX fun b ρ3 M3 => if b = true then te ρ3 M3 noX N1 else N2 ρ3 M3) →
      Q (acc ++ l.filterMap f) ρ M → compP g tt te vs chk Q (l.map emb) acc ρ1 M := by
    intro l
    induction l with
    | nil =>
      intro acc ρ1 h1 _ q
      rw [List.filterMap_nil, List.append_nil] at q
      exact ⟨hc, by rw [h1]; exact q⟩
    | cons a l ih =>
      intro acc ρ1 h1 h q
      refine ⟨hc, ?_⟩
      rw [h1]
      refine h a (List.mem_cons_self ..) _ _ (fun d ρ' e e2 => ?_) fun ρ' e e2 => ?_
      · refine ih _ ρ' e2 (fun b hb => h b (List.mem_cons_of_mem _ hb)) ?_
        rw [List.filterMap_cons, e] at q
        rw [List.append_assoc]
        exact q
      · refine ih _ ρ' e2 (fun b hb => h b (List.mem_cons_of_mem _ hb)) ?_
        rw [List.filterMap_cons, e] at q
        exact q
  exact fun l acc h q => key l acc ρ hρ h q
theorem compP_map {g : TGp} {te : TEp} {vs : List Nat} {chk : PHp → Prop} {Q : List D → PSt → PHp → Prop} {α : Type} (emb : α → D) (f : α → D) {ρ : PSt} {M : PHp} (hρ : wipeP ρ vs = ρ) (hc : chk M) (l : List α)
    (h : ∀ a ∈ l, ∀ (N1 : D → PSt → PHp → Prop), (∀ ρ', wipeP ρ' vs = ρ → N1 (f a) ρ' M) → g (emb a) ρ M fun ρ2 M2 => te ρ2 M2 noX N1) (q : Q (l.map f) ρ M) : compP g tYesP te vs chk Q (l.map emb) [] ρ M := by
  refine compP_fm emb (fun a => some (f a)) hρ hc l [] (fun a ha N1 N2 h1 h2 => ?_) ?_
  · show g (emb a) ρ M fun ρ2 M2 => if true = true then te ρ2 M2 noX N1 else N2 ρ2 M2
    simp only [if_true]
    exact h a ha N1 fun ρ' e => h1 _ ρ' rfl e
  · rw [List.nil_append, List.filterMap_eq_map']
    exact q
end
/-! ### stores -/
def setM : D → D → D → (D → Prop) → Prop
  | .lst ds, .int i, v, k => ∃ j, ixN ds.length i = some j ∧ k (.lst (ds.set j v))
  | _, _, _, _ => False
def sPut (tb : TBp) (ti te : TEp) : TSp := fun E D ρ M => te ρ M E fun v ρ1 M1 => tb ρ1 M1 E fun b ρ2 M2 => ti ρ2 M2 E fun k ρ3 M3 => ∃ c, b.get ρ3 M3 = some c ∧ setM c k v fun c' => ∃ ρ4 M4, b.put ρ3 M3 c' = some (ρ4, M4) ∧ D.nx ρ4 M4
section
variable {W : WX} {m : Bool} {X : Cx} {tg e : Expr} {tb : TBp} {ti te : TEp} {pos : Pos}
theorem s_put (hv : PEp W X e te) (hg : PG X tg (gSub (LB X.K X.mg W tb) (LE X.K X.mg W ti) rSetF)) (hs : swapsWithSole [tg] e pos.line X.env = pure false := by rfl) (hw : swappedStores [tg] e X.env = pure none := by rfl) (h1 : (assignEach [tg] X.env).map (·.2) = [assign tg X.env] := by rfl) :
    PSp W m X (.Assign [tg] e pos) (sPut tb ti te) := PS.imp (ps_asg hv hg hs hw h1) fun D σ H ⟨w, e, B, ρ, Dp, E0, R, h, d, x⟩ =>
  ⟨w, e, B, ρ, _, E0, R, h, fun v ρ1 M1 q1 w1 u1 e1 k1 R1 r1 => by
    subst e1
    refine ⟨w1, rfl, B, ρ1, _, E0, R1, q1, fun b ρ2 M2 q2 w2 u2 e2 k2 R2 acc => ?_, (x.ke k1).lx⟩
    subst e2
    refine ⟨w2, rfl, B, ρ2, _, E0, R2, q2, fun kk ρ3 M3 q3 w3 u3 e3 k3 R3 r3 => ?_, (x.ke (k1.trans k2)).lx⟩
    subst e3
    obtain ⟨c, hc, q3⟩ := q3
    unfold setM at q3
    split at q3
    · obtain ⟨j, hj, ρ4, M4, hp, q4⟩ := q3
      obtain ⟨a, vs, rfl, ha, r⟩ := acc.get w3 ρ3 k3 R3 _ hc
      cases r3
      obtain ⟨p', e', ke, hR⟩ := acc.put w3 ρ3 k3 R3 _ _ _ hp
      cases e'
      rw [f_set, ha, f_setO, r.len, hj]
      have rr := (r.set (r1.ke (k2.trans k3)) j).ke (ke (.lst (vs.set j u1)))
      exact d.nx ρ4 M4 q4 ⟨w3.Z, M4, _⟩ σ rfl (((k1.trans k2).trans k3).trans (ke _)) (hR _ ⟨_, upd_same, rr⟩)
    · exact q3.elim, x.lx⟩
end
/-! ### defs -/
abbrev XC := Str → D → PHp → Prop
abbrev SpP := List D → PHp → XC → (D → PHp → Prop) → Prop
def ResC (K : PySem.W.Frag) (mg : Str → Option Value) (m : Bool) (w w' : Wd) (v : V) (d : D) : Prop :=
  if (m && isCell d) = true then ∃ p, v = .ref p ∧ CellAt K mg w'.Z w'.H p d ∧ ¬ w'.Z p ∧ w'.M p = none ∧ w.H p = none else Rep K mg w'.Z w'.H v d
def LSp (K : PySem.W.Frag) (mg : Str → Option Value) (m : Bool) (n : Nat) (sp : SpP) : Sp := fun vs H Q E => vs.length = n ∧ ∃ w, w.H = H ∧ ∃ ds Q0 E0, w.Ok K mg ∧ Reps K mg w.Z w.H vs ds ∧ sp ds w.M E0 Q0 ∧
  (∀ d M', Q0 d M' → ∀ w' v, w'.M = M' → w'.Ok K mg → Le w w' → ResC K mg m w w' v d → Q v w'.H) ∧ (∀ c g M', E0 c g M' → ∀ w' cls dx, w'.M = M' → w'.Ok K mg → Le w w' → XRep K mg w' c g cls dx → E cls dx w'.H)
def startP (N : List Str) (ds : List D) : PSt := ds.map (fun d => some (.fz d)) ++ List.replicate (N.length - ds.length) none
theorem start_rl {K : PySem.W.Frag} {mg : Str → Option Value} {w : Wd} {N : List Str} {vs : List V} {ds : List D} (ok : w.Ok K mg) (r : Reps K mg w.Z w.H vs ds) : Rl K mg ⟨w, []⟩ w (startP N ds) (L2.start N vs) := by
  have hl := r.len
  have e1 : ∀ (i : Nat) (s : SV), (startP N ds)[i]? = some (some s) → ∃ d, ds[i]? = some d ∧ s = .fz d := fun i s h => by
    unfold startP at h
    by_cases hi : i < ds.length
    · rw [List.getElem?_append_left (by simpa using hi), List.getElem?_map, List.getElem?_eq_getElem hi] at h
      cases h
      exact ⟨_, List.getElem?_eq_getElem hi, rfl⟩
    · rw [List.getElem?_append_right (by simpa using hi), List.getElem?_replicate] at h
      split at h
      · cases h
      · cases h
  refine ⟨ok, ok, Le.refl w, ⟨?_, fun i d h => ?_, fun i d h => ?_, fun i j p d e h1 => ?_⟩, fun q hq => by cases hq⟩
  · unfold startP L2.start
    simp [hl]
  · obtain ⟨d', h1, h2⟩ := e1 i _ h
    cases h2
    obtain ⟨v, hv, rv⟩ := r.get h1
    refine ⟨v, ?_, rv⟩
    have hi : i < vs.length := (List.getElem?_eq_some_iff.mp hv).1
    unfold L2.start
    rw [List.getElem?_append_left (by simpa using hi), List.getElem?_map, hv]
    rfl
  · obtain ⟨d', h1, h2⟩ := e1 i _ h
    cases h2
  · obtain ⟨d', h1, h2⟩ := e1 i _ h1
    cases h2
structure FnP (P : Program) (w : World) (K : PySem.W.Frag) (mg : Str → Option Value) (base : Heap) (x : Str) (k : Nat) (ps : List Str) (m : Bool) (sp : SpP) : Prop where
  ex : ∃ f fd, mg x = some (.ref f) ∧ FnOk P w K mg base (L2.CX P w) k f fd ps (LSp K mg m ps.length sp) ∧ PySem.W.keepIn K (.ref f) = true ∧ Binds K fd ps [] ∧ ∃ oc od osl, K.lookup f = some ⟨oc, od, .func fd, osl⟩
section
variable {P : Program} {w : World} {K : PySem.W.Frag} {mg : Str → Option Value} {base : Heap}
/-- what a body asks, once its term is there -/
theorem ls_start {m : Bool} {N : List Str} {n : Nat} {sp : SpP} {vs : List V} {H : Hp} {Q : VK} {E : XK} {t : TSp} (h : LSp K mg m n sp vs H Q E) (ht : ∀ ds M (E0 : XC) (Q0 : D → PHp → Prop), ds.length = n → sp ds M E0 Q0 → t (fun c g _ M => E0 c g M) { nx := fun _ M => Q0 .non M, rt := fun d _ M => Q0 d M } (startP N ds) M) :
    LS K mg (fun cls d _ H => E cls d H) m t { nx := fun _ H' => Q .non H', rt := Q } (L2.start N vs) H := by
  obtain ⟨hn, w, rfl, ds, Q0, E0, ok, r, h, kq, kx⟩ := h
  refine ⟨w, rfl, ⟨w, []⟩, startP N ds, _, _, start_rl ok r, ht ds w.M E0 Q0 (by rw [← r.len]; exact hn) h, ⟨fun ρ' M' q w' σ' e k R => ?_, fun _ _ z => z.elim, fun _ _ z => z.elim, fun d ρ' M' q w' σ' v e k R rs => ?_⟩, fun c g ρ' M' q w' σ' cls dx e k R xr => ?_⟩
  · refine kq .non M' q w' .non e R.ok R.le ?_
    unfold ResC
    rw [if_neg (by cases m <;> simp [isCell])]
    exact .non
  · refine kq d M' q w' v e R.ok R.le ?_
    unfold ResC
    unfold Res at rs
    split
    · rename_i hm
      rw [if_pos hm] at rs
      obtain ⟨p, rfl, o⟩ := rs
      exact ⟨p, rfl, o.at_, o.nz, o.nm, o.n0⟩
    · rename_i hm
      rw [if_neg hm] at rs
      exact rs
  · exact kx c g M' q w' cls dx e R.ok R.le xr
theorem Df.okP {x : Str} {st : Stmt} {N ps : List Str} {k : Nat} {m : Bool} {sp : SpP} (Dd : Df K mg x st ps) (S : FnScope N ps (defScope st))
    (hbody : ∀ (f : Addr) (cdv : Value) (A : Around) (outer : List Env) (s : Shared) (H : Hp) (E : XK), Room k (A.deeper (envOfC x (defScope st) s.heap.objs.size f cdv)) → Takes (cxOf (L2.CX P w) P w K mg base N x (defScope st) f cdv A outer s H E) (fun cls d _ H => E cls d H) →
      PassesOwn (model P w) (cxOf (L2.CX P w) P w K mg base N x (defScope st) f cdv A outer s H E).A (cxOf (L2.CX P w) P w K mg base N x (defScope st) f cdv A outer s H E).env (cxOf (L2.CX P w) P w K mg base N x (defScope st) f cdv A outer s H E).xe →
      ∃ t, PSsp (fun cls d _ H => E cls d H) m (cxOf (L2.CX P w) P w K mg base N x (defScope st) f cdv A outer s H E) (defBody st) t ∧ ∀ ds M (E0 : XC) (Q0 : D → PHp → Prop), ds.length = ps.length → sp ds M E0 Q0 → t (fun c g _ M => E0 c g M) { nx := fun _ M => Q0 .non M, rt := fun d _ M => Q0 d M } (startP N ds) M) : FnP P w K mg base x (k + 1) ps m sp := by
  obtain ⟨f, fd, h1, F, b⟩ := Dd.ex
  obtain ⟨oc, od, kV, doc, pm, an, cdv, ct, osl, e1, lk, hcd⟩ := F.ex
  refine ⟨f, fd, h1, F.okX S (fun vs H Q E h => h.1) (fun cdv A outer s H vs Q E hr h => ?_), F.kp, b, oc, od, osl, lk⟩
  obtain ⟨t, ht, hq⟩ := hbody f cdv A outer s H E hr (takes_of rfl rfl rfl rfl) (passes_of rfl)
  exact ⟨_, ht, ls_start h hq⟩
end
/-! ### calls -/
def pCall (n : Nat) (sp : SpP) (dvs : List D) (ta : TAp) : TEp := fun ρ M E Q => ta ρ M E fun ds ρ' M' => (ds ++ dvs).length = n ∧ sp (ds ++ dvs) M' (fun c g M2 => E c g ρ' M2) fun d M2 => Q d ρ' M2
theorem LSp.call {K : PySem.W.Frag} {mg : Str → Option Value} {W : WX} {B : Bse} {w : Wd} {ρ : PSt} {σ : L2.St} {sp : SpP} {vs : List V} {ds : List D} {Q : VK} {Q0 : QP} {E0 : XP} {n : Nat} (hn : vs.length = n) (R : Rl K mg B w ρ σ) (r : Reps K mg w.Z w.H vs ds) (h : sp ds w.M (fun c g M2 => E0 c g ρ M2) fun d M2 => Q0 d ρ M2)
    (k : ∀ d ρ' M', Q0 d ρ' M' → ∀ w' v, w'.M = M' → w.ke w' → Rl K mg B w' ρ' σ → Rep K mg w'.Z w'.H v d → Q v w'.H) (x : LX K mg W B w σ E0) {m : Bool} : LSp K mg m n sp vs w.H Q (fun cls d H => W cls d σ H) := by
  refine ⟨hn, w, rfl, ds, _, _, R.ok, r, h, fun d M' q w' v e ok le rs => ?_, fun c g M' q w' cls dx e ok le xr => x c g ρ M' q w' cls dx e (le.ke R.ok) (R.call le ok) xr⟩
  have R' := R.call le ok
  unfold ResC at rs
  split at rs
  · obtain ⟨p, rfl, c, nz, nm, n0⟩ := rs
    have o : OwnR K mg B w' ρ σ p d := by
      refine ⟨c, nz, nm, ?_, fun i e h1 h2 => ?_, fun q hq z => ?_⟩
      · cases e : B.w.H p with
        | none => rfl
        | some u => exact absurd n0 (R.le.there p (by rw [e]; exact fun z => by cases z))
      · obtain ⟨q', g1, g2, _⟩ := R.sl.own i e h1
        rw [g1] at h2
        cases h2
        obtain ⟨u, hu, _⟩ := g2.some
        rw [n0] at hu; cases hu
      · obtain ⟨g1, _⟩ := R.tmp q hq
        rw [z, n0] at g1; cases g1
    obtain ⟨R2, r2⟩ := o.freeze R'
    exact k d ρ M' q (w'.frz p) (.ref p) e ((le.ke R.ok).trans (w'.frz_ke p)) R2 r2
  · exact k d ρ M' q w' v e (le.ke R.ok) R' rs
theorem LSp.callO {K : PySem.W.Frag} {mg : Str → Option Value} {W : WX} {B : Bse} {w : Wd} {ρ : PSt} {σ : L2.St} {sp : SpP} {vs : List V} {ds : List D} {Q : VK} {Q0 : QP} {E0 : XP} {n : Nat} (hn : vs.length = n) (R : Rl K mg B w ρ σ) (r : Reps K mg w.Z w.H vs ds) (h : sp ds w.M (fun c g M2 => E0 c g ρ M2) fun d M2 => isCell d = true ∧ Q0 d ρ M2)
    (k : ∀ d ρ' M', Q0 d ρ' M' → ∀ w' p, w'.M = M' → w.ke w' → Rl K mg B w' ρ' σ → OwnR K mg B w' ρ' σ p d → Q (.ref p) w'.H) (x : LX K mg W B w σ E0) : LSp K mg true n sp vs w.H Q (fun cls d H => W cls d σ H) := by
  refine ⟨hn, w, rfl, ds, _, _, R.ok, r, h, fun d M' ⟨hcell, q⟩ w' v e ok le rs => ?_, fun c g M' q w' cls dx e ok le xr => x c g ρ M' q w' cls dx e (le.ke R.ok) (R.call le ok) xr⟩
  have R' := R.call le ok
  unfold ResC at rs
  rw [if_pos (by rw [hcell]; rfl)] at rs
  obtain ⟨p, rfl, c, nz, nm, n0⟩ := rs
  refine k d ρ M' q w' p e (le.ke R.ok) R' ⟨c, nz, nm, ?_, fun i e h1 h2 => ?_, fun q hq z => ?_⟩
  · cases e : B.w.H p with
    | none => rfl
    | some u => exact absurd n0 (R.le.there p (by rw [e]; exact fun z => by cases z))
  · obtain ⟨q', g1, g2, _⟩ := R.sl.own i e h1
    rw [g1] at h2
    cases h2
    obtain ⟨u, hu, _⟩ := g2.some
    rw [n0] at hu; cases hu
  · obtain ⟨g1, _⟩ := R.tmp q hq
    rw [z, n0] at g1; cases g1
/-- .. the value one's own -/
def pCallO (n : Nat) (sp : SpP) (dvs : List D) (ta : TAp) : TEp := fun ρ M E Q => ta ρ M E fun ds ρ' M' => (ds ++ dvs).length = n ∧ sp (ds ++ dvs) M' (fun c g M2 => E c g ρ' M2) fun d M2 => isCell d = true ∧ Q d ρ' M2
section
variable {W : WX} {X : Cx} {x : Str} {k : Nat} {ps : List Str} {m : Bool} {sp : SpP} {e : Expr} {es : List Expr} {ta : TAp} {p pos : Pos}
theorem call_lift {K : PySem.W.Frag} {mg : Str → Option Value} {σ : L2.St} {H : Hp} {Q : VK} {n : Nat} {dvs : List V} {dds : List D} (hdv : ∀ Z H, Reps K mg Z H dvs dds) (h : LE K mg W (pCall n sp dds ta) σ H Q) : LA K mg W ta σ H fun vs H1 => LSp K mg m n sp (vs ++ dvs) H1 Q (fun cls d H => W cls d σ H) := by
  obtain ⟨w, e, B, ρ, Q0, E0, R, h, kk, xx⟩ := h
  refine ⟨w, e, B, ρ, _, E0, R, h, fun ds ρ1 M1 ⟨hl, q⟩ w1 vs e1 k1 R1 r1 => ?_, xx⟩
  subst e1
  have r2 := r1.app (hdv w1.Z w1.H)
  exact LSp.call (by rw [r2.len]; exact hl) R1 r2 q (fun d ρ' M' q' w' v e' k' => kk d ρ' M' q' w' v e' (k1.trans k')) (xx.ke k1)
theorem call_lifto {K : PySem.W.Frag} {mg : Str → Option Value} {σ : L2.St} {H : Hp} {Q : VK} {n : Nat} {dvs : List V} {dds : List D} (hdv : ∀ Z H, Reps K mg Z H dvs dds) (h : LO K mg W (pCallO n sp dds ta) σ H Q) : LA K mg W ta σ H fun vs H1 => LSp K mg true n sp (vs ++ dvs) H1 Q (fun cls d H => W cls d σ H) := by
  obtain ⟨w, e, B, ρ, Q0, E0, R, h, kk, xx⟩ := h
  refine ⟨w, e, B, ρ, _, E0, R, h, fun ds ρ1 M1 ⟨hl, q⟩ w1 vs e1 k1 R1 r1 => ?_, xx⟩
  subst e1
  have r2 := r1.app (hdv w1.Z w1.H)
  exact LSp.callO (by rw [r2.len]; exact hl) R1 r2 q (fun d ρ' M' q' w' v e' k' => kk d ρ' M' q' w' v e' (k1.trans k')) (xx.ke k1)
theorem pp_fn (tk : Takes X W) (F : FnP X.prog X.w X.K X.mg X.base x k ps m sp) (hr : Room k X.A) (hg : Gl X x) (ha : PAp W X (e :: es) ta) (hdb : (x == ("__debug__" : Str)) = false := by decide)
    (he : starEach (e :: es) X.env = (false, eval e X.env) :: starEach es X.env := by rfl) (hpl : (backTo pos (starEach es X.env)).any (·.1) = false := by rfl) :
    PEp W X (.Call (.Name x p) (e :: es) [] pos) (pCall ps.length sp [] ta) := by
  obtain ⟨f, fd, h1, G, h2, b, _⟩ := F.ex
  exact PE.imp (pe_callSD G hr hg h1 h2 b .nil (passAt tk) ha hdb he hpl) fun σ H Q h => call_lift (fun _ _ => .nil) h
theorem po_fn (tk : Takes X W) (F : FnP X.prog X.w X.K X.mg X.base x k ps true sp) (hr : Room k X.A) (hg : Gl X x) (ha : PAp W X (e :: es) ta) (hdb : (x == ("__debug__" : Str)) = false := by decide)
    (he : starEach (e :: es) X.env = (false, eval e X.env) :: starEach es X.env := by rfl) (hpl : (backTo pos (starEach es X.env)).any (·.1) = false := by rfl) :
    PEo W X (.Call (.Name x p) (e :: es) [] pos) (pCallO ps.length sp [] ta) := by
  obtain ⟨f, fd, h1, G, h2, b, _⟩ := F.ex
  exact PE.imp (pe_callSD G hr hg h1 h2 b .nil (passAt tk) ha hdb he hpl) fun σ H Q h => call_lifto (fun _ _ => .nil) h
end
end CM

/-! the pure layer: chains, truth, f-strings, stars -/
namespace CM
open PySem PySem.Spec PyProof.Rows L2
theorem hu65 {k : Nat} {A : Around} (hr : Room k A) : A.units + 65 < cLine := by
  have := hr.un
  omega
def pChain (f f' : D → D → TEp) (t1 t2 t3 : TEp) : TEp := fun ρ M E Q => t1 ρ M E fun a ρ1 M1 => t2 ρ1 M1 E fun b ρ2 M2 => f (cn M2 a) (cn M2 b) ρ2 M2 E fun z ρ3 M3 => ∃ k, z = .bl k ∧ if k = true then t3 ρ3 M3 E fun c ρ4 M4 => f' (cn M4 b) (cn M4 c) ρ4 M4 E Q else Q (.bl false) ρ3 M3
section
variable {W : WX} {X : Cx} {a b c e : Expr} {es : List Expr} {t t1 t2 t3 : TEp} {ta : TAp} {pos p : Pos}
theorem chain_lift {K : PySem.W.Frag} {mg : Str → Option Value} {σ : L2.St} {H : Hp} {Q : VK} {f f' : D → D → TEp} {r r' : R2} (hf : OpV K mg f r) (hf' : OpV K mg f' r') (h : LE K mg W (pChain f f' t1 t2 t3) σ H Q) : tChain r r' (LE K mg W t1) (LE K mg W t2) (LE K mg W t3) σ H Q := by
  obtain ⟨w, e, B, ρ, Q0, E0, R, h, k, x⟩ := h
  refine ⟨w, e, B, ρ, _, E0, R, h, fun a ρ1 M1 q1 w1 v1 e1 k1 R1 r1 => ?_, x⟩
  subst e1
  refine ⟨w1, rfl, B, ρ1, _, E0, R1, q1, fun b ρ2 M2 q2 w2 v2 e2 k2 R2 r2 => ?_, x.ke k1⟩
  subst e2
  refine hf W w2 σ v1 v2 _ _ _ ((r1.ke k2).view R2.ok) (r2.view R2.ok) ⟨B, ρ2, _, E0, R2, q2, fun z ρ3 M3 ⟨kk, ez, q3⟩ w3 v3 e3 k3 R3 r3 => ?_, x.ke (k1.trans k2)⟩
  subst e3 ez
  cases r3
  refine ⟨kk, rfl, ?_⟩
  split
  · rename_i hk
    rw [if_pos hk] at q3
    refine ⟨w3, rfl, B, ρ3, _, E0, R3, q3, fun c ρ4 M4 q4 w4 v4 e4 k4 R4 r4 => ?_, x.ke ((k1.trans k2).trans k3)⟩
    subst e4
    exact hf' W w4 σ v2 v4 _ _ Q (((r2.ke k3).ke k4).view R4.ok) (r4.view R4.ok) ⟨B, ρ4, Q0, E0, R4, q4, fun d ρ5 M5 q5 w5 v5 e5 k5 R5 r5 => k d ρ5 M5 q5 w5 v5 e5 ((((k1.trans k2).trans k3).trans k4).trans k5) R5 r5, x.ke (((k1.trans k2).trans k3).trans k4)⟩
  · rename_i hk
    rw [if_neg hk] at q3
    exact k _ ρ3 _ q3 w3 _ rfl ((k1.trans k2).trans k3) R3 (.bl false)
theorem pp_chain {op op' : CmpOp} {f f' : D → D → TEp} {r r' : R2} (ho : OpR X (compareOp op) r) (hf : OpV X.K X.mg f r) (ho' : OpR X (compareOp op') r') (hf' : OpV X.K X.mg f' r') (h1 : PEp W X a t1) (h2 : PEp W X b t2) (h3 : PEp W X c t3) (hm : lastMarks [op, op'] [b, c] = false := by with_unfolding_all rfl) :
    PEp W X (.Compare a [op, op'] [b, c] pos) (pChain f f' t1 t2 t3) := PE.imp (pe_chain ho ho' h1 h2 h3 hm) fun σ H Q h => chain_lift hf hf' h
theorem ptp_chain {op op' : CmpOp} {f f' : D → D → TEp} {r r' : R2} (ho : OpR X (compareOp op) r) (hf : OpV X.K X.mg f r) (ho' : OpR X (compareOp op') r') (hf' : OpV X.K X.mg f' r') (h1 : PEp W X a t1) (h2 : PEp W X b t2) (h3 : PEp W X c t3) (hm : lastMarks [op, op'] [b, c] = false := by with_unfolding_all rfl) :
    PTp W X (.Compare a [op, op'] [b, c] pos) (pTst (pChain f f' t1 t2 t3)) := PT.imp (pt_chain ho ho' h1 h2 h3 hm) fun σ H Q h => chain_lift hf hf' (tst_lift h)
/-! ### truth -/
def truD : D → Option Bool
  | .non => some false
  | .bl b => some b
  | .int i => some (i != 0)
  | .str l => if l.length ≤ 16777216 then some (!l.isEmpty) else none
  | .lst ds => some (!ds.isEmpty)
  | .tup ds => some (!ds.isEmpty)
  | _ => none
def pTru (tb : TBp) : TTp := fun ρ M E Q => tb ρ M E fun b ρ' M' => ∃ c k, b.get ρ' M' = some c ∧ truD c = some k ∧ Q k ρ' M'
theorem truD_of {K : PySem.W.Frag} {mg : Str → Option Value} {w : Wd} {v : V} {d : D} {k : Bool} (h : View K mg w v d) (e : truD d = some k) : TruV K v w.H k := by
  cases d with
  | non => cases h; cases e; rfl
  | bl b => cases h; cases e; rfl
  | int i => cases h; cases e; rfl
  | str l =>
    cases h
    have e : (if l.length ≤ 16777216 then some (!l.isEmpty) else none) = some k := e
    split at e
    · rename_i hl
      cases e
      refine ⟨by rw [len_sL]; exact hl, ?_⟩
      rw [len_sL]
      cases l with
      | nil => rfl
      | cons a l =>
        simp
        omega
    · cases e
  | lst ds =>
    obtain ⟨a, vs, rfl, hv, r⟩ := h
    cases e
    refine .inl ⟨vs, SqL.of hv, ?_⟩
    cases r <;> rfl
  | tup ds =>
    obtain ⟨a, vs, rfl, hv, r⟩ := h
    cases e
    refine .inr (.inl ⟨vs, sqT_of hv, ?_⟩)
    cases r <;> rfl
  | _ => cases e
theorem ptp_truth {tb : TBp} (h : PBp W X e tb) (he : ∀ whole, isTrue e X.env whole = (do let v ← whole; standAt e.pos; holding [v] (truthy v)) := by intro _; rfl) : PTp W X e (pTru tb) := PT.imp (pt_truth h he) fun σ H Q ⟨w, e, B, ρ, Q0, E0, R, h, k, x⟩ =>
  ⟨w, e, B, ρ, _, E0, R, h, fun b ρ' M' ⟨c, kk, hc, ht, q⟩ w' v e' k' R' acc => by
    subst e'
    exact ⟨kk, truD_of (acc.get w' ρ' (Ke.refl _ _) R' c hc) ht, k kk ρ' _ q w' rfl k' R'⟩, x⟩
def negD : D → TEp
  | .int i => pRet (.int (-i))
  | _ => pNo
theorem pp_neg (h : PEp W X a t) : PEp W X (.UnaryOp .USub a pos) (pUn negD t) := PE.imp (pe_un un_neg h) fun σ H Q ⟨w, e, B, ρ, Q0, E0, R, h, k, x⟩ =>
  ⟨w, e, B, ρ, _, E0, R, h, fun d ρ' M' q w' v e' k' R' r' => by
    subst e'
    have l : LW X.K X.mg W (negD (cn w'.M d)) w' σ Q := ⟨B, ρ', Q0, E0, R', q, fun d2 ρ2 M2 q2 w2 v2 e2 k2 => k d2 ρ2 M2 q2 w2 v2 e2 (k'.trans k2), x.ke k'⟩
    have vw := r'.view R'.ok
    unfold negD at l
    split at l
    · rename_i i hi
      rw [hi] at vw
      cases vw
      exact ⟨i, rfl, l.ret (.int _)⟩
    · exact l.no.elim, x⟩
/-! ### f-strings -/
def fmtD : D → TEp
  | .str l => pGu (l.length ≤ 16777216) (pRet (.str l))
  | .int i => pGu (i.natAbs.log2 < 1920) (pRet (.str (numS i)))
  | _ => pNo
theorem pp_fmt (h : PEp W X e t) : PEp W X (.FormattedValue e (-1) none pos) (pUn fmtD t) := PE.imp (pe_fmt h) fun σ H Q ⟨w, e, B, ρ, Q0, E0, R, h, k, x⟩ =>
  ⟨w, e, B, ρ, _, E0, R, h, fun d ρ' M' q w' v e' k' R' r' => by
    subst e'
    have l : LW X.K X.mg W (fmtD (cn w'.M d)) w' σ Q := ⟨B, ρ', Q0, E0, R', q, fun d2 ρ2 M2 q2 w2 v2 e2 k2 => k d2 ρ2 M2 q2 w2 v2 e2 (k'.trans k2), x.ke k'⟩
    have vw := r'.view R'.ok
    unfold fmtD at l
    split at l
    · rename_i i hi
      rw [hi] at vw
      cases vw
      obtain ⟨hl, l⟩ := l.gu
      exact .inl ⟨_, rfl, by rw [len_sL]; exact hl, l.ret (.str _)⟩
    · rename_i i hi
      rw [hi] at vw
      cases vw
      obtain ⟨hl, l⟩ := l.gu
      exact .inr ⟨_, rfl, hl, by rw [sL_numS]; exact l.ret (.str _)⟩
    · exact l.no.elim, x⟩
def jsD : List TEp → List Nat → PSt → PHp → XP → (List Nat → PSt → PHp → Prop) → Prop
  | [], acc, ρ, M, E, Q => Q acc ρ M
  | t :: ts, acc, ρ, M, E, Q => t ρ M E fun d ρ' M' => ∃ l, d = .str l ∧ (acc ++ l).length ≤ 16777216 ∧ jsD ts (acc ++ l) ρ' M' E Q
def pJs (ts : List TEp) : TEp := fun ρ M E Q => jsD ts [] ρ M E fun l ρ' M' => Q (.str l) ρ' M'
inductive PJp (W : WX) (X : Cx) : List Expr → List TEp → Prop where
  | nil : PJp W X [] []
  | cons {e : Expr} {t : TEp} {es : List Expr} {ts : List TEp} (h : PEp W X e t) (r : PJp W X es ts) : PJp W X (e :: es) (t :: ts)
theorem PJp.pj {ts : List TEp} (h : PJp W X es ts) : PJ X es (ts.map (LE X.K X.mg W)) := by
  induction h with
  | nil => exact .nil
  | cons h _ ih => exact .cons h ih
theorem js_lift {K : PySem.W.Frag} {mg : Str → Option Value} {σ : L2.St} {Q : VK} {Q0 : QP} {E0 : XP} {B : Bse} : ∀ (ts : List TEp) (acc : List Nat) (w : Wd) (ρ : PSt), Rl K mg B w ρ σ → jsD ts acc ρ w.M E0 (fun l ρ' M' => Q0 (.str l) ρ' M') →
    (∀ d ρ' M', Q0 d ρ' M' → ∀ w' v, w'.M = M' → w.ke w' → Rl K mg B w' ρ' σ → Rep K mg w'.Z w'.H v d → Q v w'.H) → LX K mg W B w σ E0 → tJs (ts.map (LE K mg W)) (sL acc) σ w.H fun out H1 => Q (.str out) H1
  | [], acc, w, ρ, R, h, k, x => k _ ρ _ h w _ rfl (Ke.refl _ _) R (.str acc)
  | t :: ts, acc, w, ρ, R, h, k, x => ⟨w, rfl, B, ρ, _, E0, R, h, fun d ρ' M' ⟨l, el, hl, q⟩ w' v e' k' R' r' => by
      subst e' el
      cases r'
      refine ⟨sL l, rfl, by rw [sL_app, len_sL]; exact hl, ?_⟩
      rw [sL_app]
      exact js_lift ts (acc ++ l) w' ρ' R' q (fun d2 ρ2 M2 q2 w2 v2 e2 k2 => k d2 ρ2 M2 q2 w2 v2 e2 (k'.trans k2)) (x.ke k'), x⟩
theorem pp_joined {v1 v2 : Expr} {rest : List Expr} {ts : List TEp} (h : PJp W X (v1 :: v2 :: rest) ts) : PEp W X (.JoinedStr (v1 :: v2 :: rest) pos) (pJs ts) := PE.imp (pe_joined h.pj) fun σ H Q ⟨w, e, B, ρ, Q0, E0, R, h, k, x⟩ => by
  subst e
  exact js_lift ts [] w ρ R h k x
/-! ### a star among the items -/
def pStar (t : TEp) (ta : TAp) : TAp := fun ρ M E Q => t ρ M E fun d ρ1 M1 => match d with
  | .lst ds => ta ρ1 M1 E fun es ρ2 M2 => Q (ds ++ es) ρ2 M2
  | .tup ds => ta ρ1 M1 E fun es ρ2 M2 => Q (ds ++ es) ρ2 M2
  | _ => False
theorem pap_star (h1 : PEp W X e t) (h2 : PAp W X es ta) (hs : starEach (.Starred e p :: es) X.env = (true, eval e X.env) :: starEach es X.env := by rfl) : PAp W X (.Starred e p :: es) (pStar t ta) := PA.imp (StX.pa_star h1 h2 hs) fun σ H Q ⟨w, e, B, ρ, Q0, E0, R, h, k, x⟩ =>
  ⟨w, e, B, ρ, _, E0, R, h, fun d ρ1 M1 q w1 v e1 k1 R1 r1 => by
    subst e1
    split at q
    · cases r1 with
      | lst z hv r => exact ⟨_, _, rfl, .inr (SqL.of hv), w1, rfl, B, ρ1, _, E0, R1, q, fun ds ρ2 M2 q2 w2 vs e2 k2 R2 r2 => k _ ρ2 M2 q2 w2 _ e2 (k1.trans k2) R2 ((r.ke k2).app r2), x.ke k1⟩
    · cases r1 with
      | tup hv r => exact ⟨_, _, rfl, .inl (SqT.of hv), w1, rfl, B, ρ1, _, E0, R1, q, fun ds ρ2 M2 q2 w2 vs e2 k2 R2 r2 => k _ ρ2 M2 q2 w2 _ e2 (k1.trans k2) R2 ((r.ke k2).app r2), x.ke k1⟩
      | tupK hv r => exact ⟨_, _, rfl, .inl (.inr hv.1), w1, rfl, B, ρ1, _, E0, R1, q, fun ds ρ2 M2 q2 w2 vs e2 k2 R2 r2 => k _ ρ2 M2 q2 w2 _ e2 (k1.trans k2) R2 ((r.ke k2).app r2), x.ke k1⟩
    · exact q.elim, x⟩
end
end CM

/-! the pure layer: raise, try -/
namespace CM
open PySem PySem.Spec PyProof.Rows L2
/-! ### M.__init__(self, ..), M a class of one's own without __init__ -/
section
variable {X : Cx} {e : Expr} {es : List Expr} {ta : TA} {p1 p2 pos : Pos}
structure BaseX (K : PySem.W.Frag) (mg : Str → Option Value) (x : Str) : Prop where
  ex : ∃ C mc, mg x = some (.ref C) ∧ PySem.W.specialIn K (.ref C) "__getattribute__" = some (some (.builtin "type.__getattribute__")) ∧ PySem.W.readsIn K C mc = true ∧ PySem.W.findCls K (.ref C) mc "__init__" = some (.val (.builtin "ValueError.__init__"))
theorem pe_meinit {x : Str} {pl : Sem Bool} (F : BaseX X.K X.mg x) (hg : Gl X x) (ha : PA X (e :: es) ta) (hd : (x == ("__debug__" : Str)) = false := by decide)
    (hc : eval (.Call (.Attribute (.Name x p1) "__init__" p2) (e :: es) [] pos) X.env = (do
      let ov ← eval (.Name x p1) X.env
      standAt p2.atName
      let (f, first) ← holding [ov] (getMethod ov "__init__" pl)
      callWith pos f first (backTo pos (starEach (e :: es) X.env)) (backToKw pos (keywordEach [] X.env))) := by rfl)
    (he : starEach (e :: es) X.env = (false, eval e X.env) :: starEach es X.env := by rfl) (hpl : (backTo pos (starEach es X.env)).any (·.1) = false := by rfl) :
    PE X (.Call (.Attribute (.Name x p1) "__init__" p2) (e :: es) [] pos) (tVeI X.K ta) := by
  obtain ⟨Cm, mc, hm, hs, hr, vV⟩ := F.ex
  refine ⟨fun pins s σ H Q I h => ?_⟩
  refine PySem.W.methodCall_KW (ld_glob I hg hm ?_ hd) hc
  refine PySem.W.method_cls I.kIn hs (PySem.W.cls_value I.kIn hr vV (by decide +kernel) ?_)
  show wpAny _ _ (callWith pos (Value.builtin "ValueError.__init__") [] (backTo pos (starEach (e :: es) X.env)) []) _ _ _
  refine PyProof.Rows.callWith_method1 (thn (ha.run pos pins _ σ H _ (I.tok _) h) fun us s1 ⟨vs, H1, I1, r1, a, C, ws, ev, hl, T, ea, q⟩ => ?_) he hpl
  subst ev
  cases r1 with
  | @cons _ u0 _ ur ra rw' =>
    obtain rfl : u0 = Value.ref a := ra
    have hlen : ur.length ≤ sizeLine := by
      rw [← Paired.length rw', sizeLine_eq]
      omega
    exact oinit_ok T I1 ea hlen fun s' J => ⟨.non, H1, J, rfl, q⟩
end
/-- what __init__(self, given) of an exception does -/
def spXI (K : PySem.W.Frag) (C : Addr) : Sp := fun vs H Q _ => ∃ (a : Addr) (v : V), vs = [.ref a, v] ∧ OexC K C ∧ PySem.W.findIn K (.ref C) "given" = some none ∧ H a = some (exo a C none) ∧ ∀ dx, H dx = none → dx ≠ a → Q .non (upd (upd H dx (exd dx [("given", v)])) a (exo a C (some dx)))
structure XFn (P : Program) (w : World) (K : PySem.W.Frag) (mg : Str → Option Value) (base : Heap) (c : Str) : Prop where
  ex : ∃ C fI fd, mg c = some (.ref C) ∧ OexC K C ∧ XfC K C ∧ PySem.W.findIn K (.ref C) "given" = some none ∧ PySem.W.findIn K (.ref C) "__init__" = some (some (.ref fI)) ∧ PySem.W.typeIn K (.ref fI) = some (.type "function") ∧ FnOk P w K mg base (L2.CX P w) 1 fI fd ["self", "given"] (spXI K C) ∧ Binds K fd ["self", "given"] []
def sRaise (c : Str) (t : TEp) : TSp := fun E D ρ M => t ρ M E fun g ρ' M' => E c g ρ' M'
section
variable {W : WX} {m : Bool} {X : Cx} {e : Expr} {t : TEp} {c : Str} {p pos pos' : Pos}
theorem s_raise (hc : X.calm = true) (tk : Takes X W) (F : XFn X.prog X.w X.K X.mg X.base c) (hr : Room 2 X.A) (hg : Gl X c) (h : PEp W X e t) (hd : (c == ("__debug__" : Str)) = false := by decide)
    (he : starEach [e] X.env = [(false, eval e X.env)] := by rfl) : PSp W m X (.Raise (some (.Call (.Name c p) [e] [] pos)) none pos') (sRaise c t) := by
  obtain ⟨C, fI, fd, h1, T, _, hno, iC, tI, G, b⟩ := F.ex
  have ha : PA X [e] (tCons (LE X.K X.mg W t) tNil) := pa_cons h pa_nil (by rw [he]; rfl)
  refine PS.imp (ps_raise hc tk (pmk_oex T iC tI G hr b .nil passL hg h1 ha hd (by rw [he]; rfl))) fun D σ H ⟨w, e, B, ρ, Dp, E0, R, h, d, x⟩ => ?_
  refine ⟨w, e, B, ρ, _, E0, R, h, fun g ρ1 M1 q w1 v e1 k1 R1 r1 => ?_, x.lx⟩
  subst e1
  refine ⟨by simp, fun a hna => ⟨a, v, rfl, T, hno, upd_same, fun dx hdx hne => ⟨rfl, dx, [("given", v)], upd_same, ?_, ?_, ?_⟩⟩⟩
  · rw [upd_ne hne, upd_same]
  · rw [upd_ne hne] at hdx
    exact hdx
  · rw [upd_ne hne] at hdx
    have eH : upd (del (upd (upd (upd w1.H a (exo a C none)) dx (exd dx [("given", v)])) a (exo a C (some dx))) a) dx (.xd [("given", v)]) = (w1.lay dx (.xd [("given", v)])).H := by
      funext b
      show _ = upd w1.H dx (.xd [("given", v)]) b
      by_cases hb : b = dx
      · subst hb
        rw [upd_same, upd_same]
      · rw [upd_ne hb, upd_ne hb]
        by_cases hba : b = a
        · subst hba
          rw [del_same, hna]
        · rw [del_ne hba, upd_ne hba, upd_ne hb, upd_ne hba]
    rw [eH]
    exact x c g ρ1 _ q (w1.lay dx (.xd [("given", v)])) σ (.ref C) (some dx) rfl (k1.trans (lay_ke hdx)) (R1.lay hdx) ⟨C, h1, rfl, dx, _, v, rfl, upd_same, rfl, r1.ke (lay_ke hdx)⟩
end
end CM

/-! the pure layer: the caught exception, try -/
namespace CM
open PySem PySem.Spec PyProof.Rows L2
theorem ans_true {K : PySem.W.Frag} {x t c : Value} {P : Heap → Prop} (ty : ∀ (M : Model) (h : Heap), K.In h → P h → PySem.W.Looks M h (typeOf x) t) (ne : (t == c) = false) (e : PySem.W.kitCls K t c = some true) : Answers (fun s => K.In s.heap ∧ P s.heap) x c true := fun dep tk prog w A R s hs => by
  obtain ⟨hp, g, dr, n, os⟩ := s
  obtain ⟨⟨kin, ph⟩, goal⟩ := hs
  have lt := ty (model prog w) hp kin ph
  obtain ⟨l1, l2, l3⟩ := PySem.W.kit_cls (M := model prog w) kin e
  have l4 : PySem.W.Looks (model prog w) hp (isInstance x c) true := lt.andThen l3
  unfold Builtin.«isinstance.nested»
  refine wpAny_bind (lt.at ?_)
  rw [if_neg (by rw [ne]; exact Bool.false_ne_true)]
  refine wpAny_bind (l1.at ?_)
  rw [if_pos (by decide)]
  k_delta "plainIsInstance"
  refine wpAny_bind (wpAny_bind (l2.at ?_))
  simp only [Bool.not_true, Bool.false_eq_true, if_false]
  refine wpAny_bind (l4.at ?_)
  simp only [if_true]
  exact wpAny_pure (wpAny_pure (goal n))
def rIsT (K : PySem.W.Frag) (a : Addr) (cls : Value) (d : Option Addr) : RC := fun xs H Q => ∃ (c : V) (cv : Value) (C dd : Addr) (fs : List (Str × V)), xs = [.ref a, c] ∧ (∀ u, RelV c u → u = cv) ∧ cls = .ref C ∧ d = some dd ∧ H dd = some (.xd fs) ∧ (Value.ref C == cv) = false ∧ PySem.W.kitCls K (.ref C) cv = some true ∧ Q (.bl true) H
theorem call_isT {X : Cx} {a : Addr} {oe : Obj} {cls : Value} {d : Option Addr} {pn : List (Addr × Obj)} (hz : Zc cls d oe) (hf : ∃ vs, oe.data = .fields vs) : CallR (X.suite a ((a, oe) :: pn)) (.builtin "isinstance") (rIsT X.K a cls d) := by
  intro pins s σ H xs us Q I r h
  obtain ⟨c, cv, C, dd, fs, rfl, hcv, rfl, rfl, ea, ne, e, q⟩ := h
  cases r with
  | cons rx rr =>
    cases rr with
    | cons rt rr =>
      cases rr
      cases rx
      have ec := hcv _ rt
      subst ec
      have hin := (I.pin (a, oe) (List.mem_append.mpr (.inl List.mem_cons_self))).1
      obtain ⟨vs, hv⟩ := hf
      have hx : ObjOk X.prog X.w H s.heap dd (.xd fs) := I.hok dd _ ea
      obtain ⟨mA, hns, _⟩ := hx
      obtain ⟨od, ho, _⟩ := lookIn_ns hns
      have J : PySem.W.InstAt s.heap a oe C (some od) := ⟨hin, hz.1, by unfold PySem.W.notCls; rw [hv] <;> rfl, by rw [hz.2]; exact ho⟩
      exact call_isinstance (S := fun _ R s => (X.K.In s.heap ∧ PySem.W.InstAt s.heap a oe C (some od)) ∧ ∀ tk, R (.ok (.ret (.bool true))) { s with toks := tk }) (fun prog w A R s hs => isinstance_outer (ans_true (P := fun h => PySem.W.InstAt h a oe C (some od)) (fun _ _ _ i => i.type) ne e 0 _ prog w A R s hs) (fun z => nomatch z)) ⟨⟨I.kIn, J⟩, fun tk => ⟨.bl true, H, I.kept (t' := tk) fun _ _ z => z, rfl, q⟩⟩
/-- e.given -/
def pXG (a dd : Addr) (t : TEp) : TEp := fun ρ M E Q => t ρ M E fun x ρ' M' => ∃ c g, x = .exc a dd c g ∧ Q g ρ' M'
/-- isinstance(e, the base of all) -/
def pXI (a dd : Addr) (t : TEp) : TEp := fun ρ M E Q => t ρ M E fun x ρ' M' => (∃ c g, x = .exc a dd c g) ∧ Q (.bl true) ρ' M'
section
variable {W : WX} {m : Bool} {X : Cx} {a dd C : Addr} {oe : Obj} {pn : List (Addr × Obj)} {e : Expr} {t : TEp} {pos : Pos} {c : Str}
theorem pp_xgiven (T : XfC X.K C) (hno : PySem.W.findIn X.K (.ref C) "given" = some none) (hz : Zc (.ref C) (some dd) oe) (hf : ∃ vs, oe.data = .fields vs) (he : PEp W (X.suite a ((a, oe) :: pn)) e t) (hb : attributeBase e "given" X.env (eval e X.env) = eval e X.env := by rfl) :
    PEp W (X.suite a ((a, oe) :: pn)) (.Attribute e "given" pos) (pXG a dd t) := PE.imp (pe_xf T hno hz hf he hb) fun σ H Q ⟨w, e, B, ρ, Q0, E0, R, h, k, x⟩ =>
  ⟨w, e, B, ρ, _, E0, R, h, fun d ρ' M' ⟨c, g, ed, q⟩ w' v e' k' R' r' => by
    subst ed
    cases r' with
    | exc h1 h2 h3 => exact ⟨rfl, rfl, dd, _, _, rfl, h1, h2, k g ρ' M' q w' _ e' k' R' h3⟩, x⟩
theorem pp_xis {x : Str} {Cm : Addr} {p p' : Pos} (hz : Zc (.ref C) (some dd) oe) (hf : ∃ vs, oe.data = .fields vs) (hg : Gl X "isinstance") (hm : X.mg "isinstance" = none) (hgx : Gl X x) (hmx : X.mg x = some (.ref Cm)) (ne : (Value.ref C == Value.ref Cm) = false) (hk : PySem.W.kitCls X.K (.ref C) (.ref Cm) = some true)
    (he : PEp W (X.suite a ((a, oe) :: pn)) e t) (hd : (x == ("__debug__" : Str)) = false := by decide) (hs : starEach [e, .Name x p'] (X.suite a ((a, oe) :: pn)).env = (false, eval e (X.suite a ((a, oe) :: pn)).env) :: starEach [.Name x p'] (X.suite a ((a, oe) :: pn)).env := by rfl) :
    PEp W (X.suite a ((a, oe) :: pn)) (.Call (.Name "isinstance" p) [e, .Name x p'] [] pos) (pXI a dd t) :=
  PE.imp (pe_callB (call_isT hz hf) hg hm (by decide +kernel) (pa_cons he (pa_cons (pe_glob (v := .ref Cm) hgx hmx rfl hd) pa_nil) hs) (by decide) (by decide) hs) fun σ H Q ⟨w, e, B, ρ, Q0, E0, R, h, k, x⟩ =>
  ⟨w, e, B, ρ, _, E0, R, h, fun d ρ' M' ⟨⟨c, g, ed⟩, q⟩ w' v e' k' R' r' => by
    subst ed
    cases r' with
    | exc h1 h2 h3 => exact ⟨_, .ref Cm, C, dd, _, rfl, fun u hu => hu, rfl, rfl, h1, ne, hk, k _ ρ' M' q w' _ e' k' R' (.bl true)⟩, x⟩
end
/-! ### try: one clause with a name -/
def sTryAs (L : List Str) (c : Str) (i : Nat) (tb : TSp) (ts : Addr → Addr → TSp) : TSp := fun E D ρ M =>
  tb (fun cc g ρ1 M1 => cc ∈ L ∧ if cc = c then ∀ a dd, ts a dd noX { nx := fun ρ2 M2 => D.nx (ρ2.set i none) M2, rt := D.rt, bk := fun ρ2 M2 => D.bk (ρ2.set i none) M2, ct := fun ρ2 M2 => D.ct (ρ2.set i none) M2 } (ρ1.set i (some (.fz (.exc a dd cc g)))) M1 else E cc g ρ1 M1) D ρ M
theorem pss_false {X : Cx} {st : List Stmt} : PSs X st (fun _ _ _ => False) := ⟨fun _ _ _ _ _ _ h => h.elim⟩
section
variable {W : WX} {m : Bool} {X : Cx} {c n : Str} {i : Nat} {body suite : List Stmt} {b₀ : Stmt} {np pos pos' : Pos} {tb : TSp} {ts : Addr → Addr → TSp} {C : Addr} {L : List Str}
theorem s_tryAs (hs : X.stack = X.env :: X.outer) (hf : X.env.frame = some X.env.locals) (hN : X.N.Nodup) (hi : X.N[i]? = some n) (hln : X.env.kindOf n = some .local) (hg : Gl X c) (hmc : X.mg c = some (.ref C)) (tk : Takes X W)
    (hm : ∀ cc ∈ L, ∀ CC, X.mg cc = some (.ref CC) → PySem.W.exmOne X.K (.ref CC) (.ref C) = some (decide (cc = c)))
    (hb : ∀ (W' : WX) (pn : List (Addr × Obj)) (xe : Value → Shared → Prop), Takes (X.tr pn xe) W' → PassesOwn (model X.prog X.w) X.A X.env xe → PSsp W' m (X.tr pn xe) body tb)
    (hsu : ∀ (a dd : Addr) (oe : Obj) (pn : List (Addr × Obj)), Zc (.ref C) (some dd) oe → (∃ vs, oe.data = .fields vs) → PSsp noW m (X.suite a ((a, oe) :: pn)) (b₀ :: suite) (ts a dd)) (hd : (c == ("__debug__" : Str)) = false := by decide) :
    PSp W m X (.Try body [.ExceptHandler (some (.Name c np)) (some n) (b₀ :: suite) pos'] [] [] pos) (sTryAs L c i tb ts) := by
  refine PS.imp (ps_try_as (tb := fun W' => LS X.K X.mg W' m tb) (ts := fun a cls d => match d with
    | some dd => fun D σ H => cls = .ref C ∧ LS X.K X.mg noW m (ts a dd) D σ H
    | none => fun _ _ _ => False) (Wout := W) hs hf hN hi hln ⟨hg, hd, .inl hmc⟩ tk hb (fun a oe cls d pn hz hf => ?_)) fun D σ H ⟨w, e, B, ρ, Dp, E0, R, h, d, x⟩ => ?_
  · cases d with
    | none => exact pss_false
    | some dd =>
      by_cases hcl : cls = .ref C
      · subst hcl
        exact PSs.imp (hsu a dd oe pn hz hf) fun D σ H q => q.2
      · exact PSs.imp pss_false fun D σ H q => hcl q.1
  · refine ⟨w, e, B, ρ, Dp, _, R, h, d, fun cc g ρ' M' ⟨hL, q⟩ w' σ' cls dx e' k' R' xr => ?_⟩
    obtain ⟨CC, hCC, rfl, p, fs, v, rfl, hp, hfs, rv⟩ := id xr
    subst e'
    refine ⟨decide (cc = c), hm cc hL CC hCC, fun hb a ha => ?_, fun hb => ?_⟩
    · have hcc := of_decide_eq_true hb
      subst hcc
      rw [hmc] at hCC
      cases hCC
      rw [if_pos rfl] at q
      refine ⟨rfl, w', rfl, B, _, _, noX, R'.setF (.exc hp hfs rv), q a p, ⟨fun ρ2 M2 q2 w2 σ2 e2 k2 R2 => ?_, fun ρ2 M2 q2 w2 σ2 e2 k2 R2 => ?_, fun ρ2 M2 q2 w2 σ2 e2 k2 R2 => ?_, fun d2 ρ2 M2 q2 w2 σ2 v2 e2 k2 R2 r2 => ?_⟩, fun _ _ _ _ z => z.elim⟩
      · exact d.nx _ M2 q2 w2 _ e2 (k'.trans k2) (R2.like (vs := [i]) (by rw [List.length_set]) fun j hj => List.getElem?_set_ne (fun z : i = j => hj (by rw [z]; exact List.mem_singleton.mpr rfl)))
      · exact d.bk _ M2 q2 w2 _ e2 (k'.trans k2) (R2.like (vs := [i]) (by rw [List.length_set]) fun j hj => List.getElem?_set_ne (fun z : i = j => hj (by rw [z]; exact List.mem_singleton.mpr rfl)))
      · exact d.ct _ M2 q2 w2 _ e2 (k'.trans k2) (R2.like (vs := [i]) (by rw [List.length_set]) fun j hj => List.getElem?_set_ne (fun z : i = j => hj (by rw [z]; exact List.mem_singleton.mpr rfl)))
      · exact d.rt d2 ρ2 M2 q2 w2 σ2 v2 e2 (k'.trans k2) R2 r2
    · have hne := of_decide_eq_false hb
      rw [if_neg hne] at q
      exact x cc g ρ' _ q w' σ' _ _ rfl k' R' xr
end
end CM

/-! the pure layer: the heads of exceptions, the end of a law -/
namespace CM
open PySem PySem.Spec PyProof.Rows L2
/-- an exception's class, as it stands behind the top -/
structure XDf (K : PySem.W.Frag) (mg : Str → Option Value) (c qual : Str) (st : Stmt) : Prop where
  ex : ∃ C fI fd, mg c = some (.ref C) ∧ OexC K C ∧ XfC K C ∧ PySem.W.findIn K (.ref C) "given" = some none ∧ PySem.W.findIn K (.ref C) "__init__" = some (some (.ref fI)) ∧ PySem.W.typeIn K (.ref fI) = some (.type "function") ∧ Fun K "__init__" qual st fI fd ∧ Binds K fd ["self", "given"] []
section
variable {P : Program} {w : World} {K : PySem.W.Frag} {mg : Str → Option Value} {base : Heap}
theorem XDf.ok {c qual : Str} {st : Stmt} {v : V} (Dx : XDf K mg c qual st) (S : FnScope ["self", "given"] ["self", "given"] (defScope st))
    (hb : ∀ (f : Addr) (cdv : Value) (A : Around) (outer : List Env) (s : Shared) (H : Hp) (E : XK), Room 0 (A.deeper (envOfC qual (defScope st) s.heap.objs.size f cdv)) →
      PSs (cxOf (L2.CX P w) P w K mg base ["self", "given"] qual (defScope st) f cdv A outer s H E) (defBody st) (tSeq (tDrop (tVeI K (tCons (tVar 0) (tCons (tC v) tNil)))) (tOst K "given" (tVar 0) (tVar 1)))) : XFn P w K mg base c := by
  obtain ⟨C, fI, fd, h1, T, Tf, hno, iC, tI, F, b⟩ := Dx.ex
  refine ⟨C, fI, fd, h1, T, Tf, hno, iC, tI, F.okX S (fun vs H Q E h => ?_) (fun cdv A outer s H vs Q E hr h => ⟨_, hb fI cdv A outer s H E hr, ?_⟩), b⟩
  · obtain ⟨a, v, rfl, _⟩ := h
    rfl
  · obtain ⟨a, v', rfl, _, _, ha, k⟩ := h
    exact ⟨_, rfl, a, C, [v], rfl, by simp, T, ha, _, rfl, _, rfl, a, C, rfl, T, hno, .inl ⟨ha, fun dx hdx hne => k dx hdx hne⟩⟩
end
section
variable {K : PySem.W.Frag} {h : Heap} {mg : Str → Option Value}
abbrev XDfOf (_ : K.In h) (mg : Str → Option Value) (c qual : Str) (st : Stmt) : Prop := XDf K mg c qual st
theorem xdf_mk {c qual : Str} {st : Stmt} {C fI : Addr} {oc : Value} {od an : Option Addr} {osl : Array (Option Value)} {kV doc pm cdv ct : Value} {oC : Obj} (X : K.In h) (G : h.Ns mainGlobals mg) (a : PySem.W.nsIn K mainGlobals c = some (some (.ref C)))
    (lc : K.lookup C = some oC) (hc : ∃ nm q N bs bm sn sub ab col dd k0 k1 k2 k3 k5, oC = excClassObj nm q C N bs bm true sn sub ab col dd k0 k1 k2 k3 k5 "ValueError.__new__" ∧ PySem.HandSPX.refsVE bm = true)
    (sa : PySem.W.findIn K (.ref C) "__setattr__" = some (some (.builtin "object.__setattr__"))) (exC : PySem.W.subIn K (.ref C) (.type "BaseException") = some true) (tyC : PySem.W.typeIn K (.ref C) = some (.type "type")) (kC : PySem.W.keepIn K (.ref C) = true)
    (ga : PySem.W.findIn K (.ref C) "__getattribute__" = some (some (.builtin "BaseException.__getattribute__"))) (gg : PySem.W.findIn K (.ref C) "__getattr__" = some none) (hdC : PySem.W.hasDictIn K C = true) (hno : PySem.W.findIn K (.ref C) "given" = some none)
    (iC : PySem.W.findIn K (.ref C) "__init__" = some (some (.ref fI))) (tI : PySem.W.typeIn K (.ref fI) = some (.type "function"))
    (l : K.lookup fI = some ⟨oc, od, .func (PySem.W.fnOf "__init__" qual (defArgs st) (defBody st) (defScope st) .none kV doc pm an cdv ct), osl⟩) (ci : PySem.W.codeIn K cdv qual = true) (k : PySem.W.keepIn K (.ref fI) = true)
    (hb : ∀ (kV doc pm : Value) (an : Option Addr) (cdv ct : Value) (us : List Value), us.length = (["self", "given"] : List Str).length → bindArgs (PySem.W.fnOf "__init__" qual (defArgs st) (defBody st) (defScope st) .none kV doc pm an cdv ct) ⟨us, []⟩ = pure ((["self", "given"] : List Str).zip us)) : XDf K mg c qual st := by
  obtain ⟨nm, q, N, bs, bm, sn, sub, ab, col, dd, k0, k1, k2, k3, k5, e, hbm⟩ := hc
  subst e
  exact ⟨C, fI, _, PySem.W.mg_of X G a, ⟨⟨nm, q, N, bs, bm, sn, sub, ab, col, dd, k0, k1, k2, k3, k5, lc, hbm⟩, sa, exC, tyC, kC⟩, ⟨ga, gg, exC, hdC⟩, hno, iC, tI, fun_mk l ci k, (fun_mk (st := st) l ci k).binds hb⟩
theorem baseX_mk {x : Str} {C : Addr} {mc : Value} (X : K.In h) (G : h.Ns mainGlobals mg) (a : PySem.W.nsIn K mainGlobals x = some (some (.ref C))) (s : PySem.W.specialIn K (.ref C) "__getattribute__" = some (some (.builtin "type.__getattribute__"))) (r : PySem.W.readsIn K C mc = true)
    (f : PySem.W.findCls K (.ref C) mc "__init__" = some (.val (.builtin "ValueError.__init__"))) : BaseX K mg x := ⟨C, mc, PySem.W.mg_of X G a, s, r, f⟩
end
/-! ### the end -/
def spLaw : SpP := fun ds M E Q => ∃ ns : List Int, (ds = [.lst (ns.map D.int)] ∨ ds = [.scr ns]) ∧ ∀ M', Q (.bl true) M'
theorem spLaw_of {K : PySem.W.Frag} {mg : Str → Option Value} {vs : List V} {H : Hp} {Q : VK} {E : XK} (h : sp_law K vs H Q E) : LSp K mg false 1 spLaw vs H Q E := by
  obtain ⟨a, ns, rfl, hS, k⟩ := h
  refine ⟨rfl, ?_⟩
  have w0 : ∀ Z : Addr → Prop, (∀ b, Z b → H b ≠ none) → Wd.Ok K mg ⟨Z, fun _ => none, H⟩ := fun Z hz => ⟨fun _ _ z => (by cases z), hz, fun _ _ _ => rfl⟩
  have fin : ∀ (w : Wd) (d : D), w.H = H → w.Ok K mg → Rep K mg w.Z w.H (.ref a) d → (d = .lst (ns.map D.int) ∨ d = .scr ns) → ∃ w : Wd, w.H = H ∧ ∃ ds Q0 E0, w.Ok K mg ∧ Reps K mg w.Z w.H [.ref a] ds ∧ spLaw ds w.M E0 Q0 ∧
      (∀ d M', Q0 d M' → ∀ w' v, w'.M = M' → w'.Ok K mg → Le w w' → ResC K mg false w w' v d → Q v w'.H) ∧ (∀ c g M', E0 c g M' → ∀ w' cls dx, w'.M = M' → w'.Ok K mg → Le w w' → XRep K mg w' c g cls dx → E cls dx w'.H) := fun w d e ok r hd =>
    ⟨w, e, [d], fun d _ => d = .bl true, fun _ _ _ => False, ok, .one r, ⟨ns, hd.imp (fun h => by rw [h]) (fun h => by rw [h]), fun _ => rfl⟩, fun d M' q w' v _ _ _ rs => by
      subst q
      have rs : Rep K mg w'.Z w'.H v (.bl true) := rs
      cases rs
      exact k w'.H, fun _ _ _ z => z.elim⟩
  rcases hS with (hS | ⟨o, hS⟩) | hS
  · exact fin ⟨fun b => b = a, fun _ => none, H⟩ _ rfl (w0 _ fun b hb => by rw [hb, hS]; exact fun z => by cases z) (.lst rfl hS (reps_of_ints ns)) (.inl rfl)
  · exact fin ⟨fun _ => False, fun _ => none, H⟩ _ rfl (w0 _ fun b hb => hb.elim) (.scr (.inl ⟨o, hS⟩)) (.inr rfl)
  · exact fin ⟨fun _ => False, fun _ => none, H⟩ _ rfl (w0 _ fun b hb => hb.elim) (.scr (.inr hS)) (.inr rfl)
theorem walkP {l : PySem.W.OpenLaw} {q : Program} {loose : List Str} {XP : (Str → Option Value) → Heap → Prop} {YP : World → Heap → Prop} {d : DefRec} {K : Params → PySem.W.Frag} (st : Stmt) (k : Nat) (hn : l.most = some 63) (hdf : d.params.defaults = []) (hr : Room k callerA) (hd : d.name = "law")
    (hY : ∀ (w : World) (h : Heap), YP w h → (K w.params).In h)
    (F : ∀ (w : World) (mg : Str → Option Value) (h : Heap), (K w.params).In h → h.Ns mainGlobals mg → LawD (K w.params) mg st ∧ ∀ base : Heap, (K w.params).In base → base.Ns mainGlobals mg → FnP l.prog w (K w.params) mg base "law" k ["_law_script"] false spLaw) :
    PySem.W.WalkO q loose XP YP l.row.toRowW d [] (fun f vs => PySem.call f vs) := by
  refine L2.walk_of (n := 63) (k := k) (x := "_law_script") (CX := fun w => L2.CX l.prog w) (sp := fun w => sp_law (K w.params)) hn (by decide) hdf hr hY ?_ (fun _ _ a ns hl _ hS => ⟨a, ns, rfl, hS, fun _ => rfl⟩) ?_
  · intro w mg fa h X G hm
    obtain ⟨⟨_, f, fd, oc, od, osl, h1, h2, h3⟩, hF⟩ := F w mg h X G
    rw [hd, h1] at hm
    cases hm
    refine ⟨fd, h3, fun base B1 B2 => ?_⟩
    obtain ⟨f', fd', g1, g2, g3, g4, oc', od', osl', g5⟩ := (hF base B1 B2).ex
    rw [h1] at g1
    cases g1
    rw [h2] at g5
    cases g5
    exact g2.imp fun vs H Q E h => spLaw_of h
  · intro _ _ _ _ _ h
    obtain ⟨_, _, _, _, _, _, _, _, _, _, _, _, z⟩ := h
    exact z
end CM

/-! the pure layer: the readings, fully applied (for simp) -/
namespace CM
open PySem PySem.Spec PyProof.Rows L2
section
variable {ρ : PSt} {M : PHp} {E : XP} {Q : QP} {Qb : Bool → PSt → PHp → Prop} {Qa : List D → PSt → PHp → Prop} {Qi : List D → (PHp → Prop) → PSt → PHp → Prop} {Qo : Option Int → PSt → PHp → Prop} {Qs : Bs → PSt → PHp → Prop} {R : PSt → PHp → Prop} {D' : EndsP}
variable {t u v : TEp} {tt uu : TTp} {ta : TAp} {tb : TBp} {ts us : TSp} {f f' : D → D → TEp} {fl : List D → TEp} {d e : D} {i j : Int} {k n : Nat} {a b : List Nat} {xs ys : List D} {p q : Bool}
theorem u_ret : pRet d ρ M E Q = Q d ρ M := rfl
theorem u_no : pNo ρ M E Q = False := rfl
def varK (s : Option (Option SV)) (k : Nat) (ρ : PSt) (M : PHp) (Q : QP) : Prop := match s with | some (some (.fz d)) => Q d ρ M | some (some (.own d)) => Q d (ρ.set k (some (.fz d))) M | _ => False
theorem u_var : pVar k ρ M E Q = varK ρ[k]? k ρ M Q := rfl
theorem u_var1 : varK (some (some (.fz d))) k ρ M Q = Q d ρ M := rfl
theorem u_var2 : varK (some (some (.own d))) k ρ M Q = Q d (ρ.set k (some (.fz d))) M := rfl
def movK (s : Option (Option SV)) (k : Nat) (ρ : PSt) (M : PHp) (Q : QP) : Prop := match s with | some (some (.own d)) => Q d (ρ.set k none) M | _ => False
theorem u_move : pMove k ρ M E Q = movK ρ[k]? k ρ M Q := rfl
theorem u_move1 : movK (some (some (.own d))) k ρ M Q = Q d (ρ.set k none) M := rfl
def kb2 (f : D → D → TEp) (a : D) (E : XP) (Q : QP) : QP := fun b ρ2 M2 => f (cn M2 a) (cn M2 b) ρ2 M2 E Q
def kb1 (f : D → D → TEp) (u : TEp) (E : XP) (Q : QP) : QP := fun a ρ1 M1 => u ρ1 M1 E (kb2 f a E Q)
theorem u_bin : pBin f t u ρ M E Q = t ρ M E (kb1 f u E Q) := rfl
theorem u_bin1 : kb1 f u E Q d ρ M = u ρ M E (kb2 f d E Q) := rfl
theorem u_bin2 : kb2 f d E Q e ρ M = f (cn M d) (cn M e) ρ M E Q := rfl
def ku (g : D → TEp) (E : XP) (Q : QP) : QP := fun a ρ M => g (cn M a) ρ M E Q
theorem u_un {g : D → TEp} : pUn g t ρ M E Q = t ρ M E (ku g E Q) := rfl
theorem u_un1 {g : D → TEp} : ku g E Q d ρ M = g (cn M d) ρ M E Q := rfl
def kt (Qb : Bool → PSt → PHp → Prop) : QP := fun d ρ' M' => ∃ b, d = .bl b ∧ Qb b ρ' M'
theorem u_tst : pTst t ρ M E Qb = t ρ M E (kt Qb) := rfl
theorem u_tst1 : kt Qb (.bl p) ρ M = Qb p ρ M := by unfold kt; simp
theorem u_nil : pNil ρ M E Qa = Qa [] ρ M := rfl
def kc2 (a : D) (Qa : List D → PSt → PHp → Prop) : List D → PSt → PHp → Prop := fun ds ρ2 M2 => Qa (a :: ds) ρ2 M2
def kc1 (ta : TAp) (E : XP) (Qa : List D → PSt → PHp → Prop) : QP := fun a ρ1 M1 => ta ρ1 M1 E (kc2 a Qa)
theorem u_cons : pCons t ta ρ M E Qa = t ρ M E (kc1 ta E Qa) := rfl
theorem u_cons1 : kc1 ta E Qa d ρ M = ta ρ M E (kc2 d Qa) := rfl
theorem u_cons2 : kc2 d Qa xs ρ M = Qa (d :: xs) ρ M := rfl
def kif (t u : TEp) (E : XP) (Q : QP) : Bool → PSt → PHp → Prop := fun b ρ1 M1 => if b = true then t ρ1 M1 E Q else u ρ1 M1 E Q
def kand (uu : TTp) (E : XP) (Qb : Bool → PSt → PHp → Prop) : Bool → PSt → PHp → Prop := fun b ρ1 M1 => if b = true then uu ρ1 M1 E Qb else Qb false ρ1 M1
def kor (uu : TTp) (E : XP) (Qb : Bool → PSt → PHp → Prop) : Bool → PSt → PHp → Prop := fun b ρ1 M1 => if b = true then Qb true ρ1 M1 else uu ρ1 M1 E Qb
def knot (Qb : Bool → PSt → PHp → Prop) : Bool → PSt → PHp → Prop := fun b ρ1 M1 => Qb (!b) ρ1 M1
theorem u_andT : pAndT tt uu ρ M E Qb = tt ρ M E (kand uu E Qb) := rfl
theorem u_andT1 : kand uu E Qb p ρ M = if p = true then uu ρ M E Qb else Qb false ρ M := rfl
theorem u_orT : pOrT tt uu ρ M E Qb = tt ρ M E (kor uu E Qb) := rfl
theorem u_orT1 : kor uu E Qb p ρ M = if p = true then Qb true ρ M else uu ρ M E Qb := rfl
theorem u_notT : pNotT tt ρ M E Qb = tt ρ M E (knot Qb) := rfl
theorem u_notT1 : knot Qb p ρ M = Qb (!p) ρ M := rfl
theorem u_if : pIf tt t u ρ M E Q = tt ρ M E (kif t u E Q) := rfl
theorem u_if1 : kif t u E Q p ρ M = if p = true then t ρ M E Q else u ρ M E Q := rfl
def kandV (u : TEp) (E : XP) (Q : QP) : QP := fun d ρ1 M1 => ∃ b, d = .bl b ∧ if b = true then u ρ1 M1 E Q else Q (.bl false) ρ1 M1
def korV (u : TEp) (E : XP) (Q : QP) : QP := fun d ρ1 M1 => ∃ b, d = .bl b ∧ if b = true then Q (.bl true) ρ1 M1 else u ρ1 M1 E Q
def knotV (Q : QP) : QP := fun d ρ1 M1 => ∃ b, d = .bl b ∧ Q (.bl (!b)) ρ1 M1
theorem u_andV : pAndV t u ρ M E Q = t ρ M E (kandV u E Q) := rfl
theorem u_andV1 : kandV u E Q (.bl p) ρ M = if p = true then u ρ M E Q else Q (.bl false) ρ M := by unfold kandV; simp
theorem u_orV : pOrV t u ρ M E Q = t ρ M E (korV u E Q) := rfl
theorem u_orV1 : korV u E Q (.bl p) ρ M = if p = true then Q (.bl true) ρ M else u ρ M E Q := by unfold korV; simp
theorem u_notV : pNotV t ρ M E Q = t ρ M E (knotV Q) := rfl
theorem u_notV1 : knotV Q (.bl p) ρ M = Q (.bl (!p)) ρ M := by unfold knotV; simp
def klst (Q : QP) : List D → PSt → PHp → Prop := fun ds ρ' M' => ds.length ≤ 16777216 ∧ Q (.lst ds) ρ' M'
def ktup (Q : QP) : List D → PSt → PHp → Prop := fun ds ρ' M' => ds.length ≤ 16777216 ∧ Q (.tup ds) ρ' M'
theorem u_lst : pLst ta ρ M E Q = ta ρ M E (klst Q) := rfl
theorem u_lst1 : klst Q xs ρ M = (xs.length ≤ 16777216 ∧ Q (.lst xs) ρ M) := rfl
theorem u_tup : pTup ta ρ M E Q = ta ρ M E (ktup Q) := rfl
theorem u_tup1 : ktup Q xs ρ M = (xs.length ≤ 16777216 ∧ Q (.tup xs) ρ M) := rfl
def kcb (fl : List D → TEp) (E : XP) (Q : QP) : List D → PSt → PHp → Prop := fun ds ρ' M' => fl (ds.map (cn M')) ρ' M' E Q
theorem u_cb : pCB fl ta ρ M E Q = ta ρ M E (kcb fl E Q) := rfl
theorem u_cb1 : kcb fl E Q xs ρ M = fl (xs.map (cn M)) ρ M E Q := rfl
theorem u_gu {P : Prop} : pGu P t ρ M E Q = (P ∧ t ρ M E Q) := rfl
theorem u_opt1 {α : Type} {x : α} {g : α → TEp} : pOpt (some x) g ρ M E Q = g x ρ M E Q := rfl
theorem u_ex {α : Type} {g : α → TEp} : pEx g ρ M E Q = ∃ a, g a ρ M E Q := rfl
def kch4 (f' : D → D → TEp) (b : D) (E : XP) (Q : QP) : QP := fun c ρ4 M4 => f' (cn M4 b) (cn M4 c) ρ4 M4 E Q
def kch3 (f' : D → D → TEp) (b : D) (v : TEp) (E : XP) (Q : QP) : QP := fun z ρ3 M3 => ∃ k, z = .bl k ∧ if k = true then v ρ3 M3 E (kch4 f' b E Q) else Q (.bl false) ρ3 M3
def kch2 (f f' : D → D → TEp) (a : D) (v : TEp) (E : XP) (Q : QP) : QP := fun b ρ2 M2 => f (cn M2 a) (cn M2 b) ρ2 M2 E (kch3 f' b v E Q)
def kch1 (f f' : D → D → TEp) (u v : TEp) (E : XP) (Q : QP) : QP := fun a ρ1 M1 => u ρ1 M1 E (kch2 f f' a v E Q)
theorem u_chain {v : TEp} : pChain f f' t u v ρ M E Q = t ρ M E (kch1 f f' u v E Q) := rfl
theorem u_chain1 : kch1 f f' u v E Q d ρ M = u ρ M E (kch2 f f' d v E Q) := rfl
theorem u_chain2 : kch2 f f' d v E Q e ρ M = f (cn M d) (cn M e) ρ M E (kch3 f' e v E Q) := rfl
theorem u_chain3 : kch3 f' d v E Q (.bl p) ρ M = if p = true then v ρ M E (kch4 f' d E Q) else Q (.bl false) ρ M := by unfold kch3; simp
theorem u_chain4 : kch4 f' d E Q e ρ M = f' (cn M d) (cn M e) ρ M E Q := rfl
def truK (o : Option D) (Qb : Bool → PSt → PHp → Prop) (ρ : PSt) (M : PHp) : Prop := ∃ c k, o = some c ∧ truD c = some k ∧ Qb k ρ M
def ktr (Qb : Bool → PSt → PHp → Prop) : Bs → PSt → PHp → Prop := fun b ρ' M' => truK (b.get ρ' M') Qb ρ' M'
theorem u_tru : pTru tb ρ M E Qb = tb ρ M E (ktr Qb) := rfl
theorem u_tru1 {b : Bs} : ktr Qb b ρ M = truK (b.get ρ M) Qb ρ M := rfl
theorem u_tru2 : truK (some d) Qb ρ M = ∃ k, truD d = some k ∧ Qb k ρ M := by unfold truK; simp
def kbv (Qs : Bs → PSt → PHp → Prop) : QP := fun a ρ' M' => Qs (bsVal a) ρ' M'
theorem u_bval : bVal t ρ M E Qs = t ρ M E (kbv Qs) := rfl
theorem u_bval1 : kbv Qs d ρ M = Qs (bsVal d) ρ M := rfl
theorem u_bslot : bSlot k ρ M E Qs = ((∃ s, ρ[k]? = some (some s)) ∧ Qs (bsSlot k) ρ M) := rfl
theorem u_gval : (bsVal d).get ρ M = some (cn M d) := rfl
def getK (s : Option (Option SV)) (M : PHp) : Option D := match s with | some (some (.own d)) => some d | some (some (.fz d)) => some (cn M d) | _ => none
theorem u_gslot : (bsSlot k).get ρ M = getK ρ[k]? M := rfl
theorem u_gslot1 : getK (some (some (.own d))) M = some d := rfl
theorem u_gslot2 : getK (some (some (.fz d))) M = some (cn M d) := rfl
def putK' (s : Option (Option SV)) (k : Nat) (ρ : PSt) (M : PHp) (d : D) : Option (PSt × PHp) := match s with | some (some (.own _)) => some (ρ.set k (some (.own d)), M) | some (some (.fz (.ref a))) => (M a).map fun _ => (ρ, updM M a d) | _ => none
theorem u_pslot : (bsSlot k).put ρ M d = putK' ρ[k]? k ρ M d := rfl
theorem u_pslot1 : putK' (some (some (.own e))) k ρ M d = some (ρ.set k (some (.own d)), M) := rfl
def putR (o : Option D) (ρ : PSt) (M : PHp) (a : Addr) (d : D) : Option (PSt × PHp) := o.map fun _ => (ρ, updM M a d)
theorem u_pslot2 {a : Addr} : putK' (some (some (.fz (.ref a)))) k ρ M d = putR (M a) ρ M a d := rfl
theorem u_pval {a : Addr} : (bsVal (.ref a)).put ρ M d = putR (M a) ρ M a d := rfl
theorem u_putR {a : Addr} : putR (some e) ρ M a d = some (ρ, updM M a d) := rfl
def ixK (o : Option D) (g : D → D → TEp) (k : D) (ρ : PSt) (M : PHp) (E : XP) (Q : QP) : Prop := pOpt o (fun c => g c (cn M k)) ρ M E Q
def kix2 (g : D → D → TEp) (b : Bs) (E : XP) (Q : QP) : QP := fun k ρ2 M2 => ixK (b.get ρ2 M2) g k ρ2 M2 E Q
def kix1 (g : D → D → TEp) (t : TEp) (E : XP) (Q : QP) : Bs → PSt → PHp → Prop := fun b ρ1 M1 => t ρ1 M1 E (kix2 g b E Q)
theorem u_ix {g : D → D → TEp} : pIx g tb t ρ M E Q = tb ρ M E (kix1 g t E Q) := rfl
theorem u_ix1 {g : D → D → TEp} {b : Bs} : kix1 g t E Q b ρ M = t ρ M E (kix2 g b E Q) := rfl
theorem u_ix2 {g : D → D → TEp} {b : Bs} : kix2 g b E Q d ρ M = ixK (b.get ρ M) g d ρ M E Q := rfl
theorem u_ix3 {g : D → D → TEp} : ixK (some e) g d ρ M E Q = g e (cn M d) ρ M E Q := rfl
theorem u_onone : oNone ρ M E Qo = Qo none ρ M := rfl
def kos (Qo : Option Int → PSt → PHp → Prop) : QP := fun d ρ' M' => ∃ i, d = .int i ∧ Qo (some i) ρ' M'
theorem u_osome : oSome t ρ M E Qo = t ρ M E (kos Qo) := rfl
theorem u_osome1 : kos Qo (.int i) ρ M = Qo (some i) ρ M := by unfold kos; simp
def slK (o : Option D) (g : D → Option Int → Option Int → TEp) (lo hi : Option Int) (ρ : PSt) (M : PHp) (E : XP) (Q : QP) : Prop := pOpt o (fun c => g c lo hi) ρ M E Q
def ksl3 (g : D → Option Int → Option Int → TEp) (b : Bs) (lo : Option Int) (E : XP) (Q : QP) : Option Int → PSt → PHp → Prop := fun hi ρ3 M3 => slK (b.get ρ3 M3) g lo hi ρ3 M3 E Q
def ksl2 (g : D → Option Int → Option Int → TEp) (b : Bs) (th : TOp) (E : XP) (Q : QP) : Option Int → PSt → PHp → Prop := fun lo ρ2 M2 => th ρ2 M2 E (ksl3 g b lo E Q)
def ksl1 (g : D → Option Int → Option Int → TEp) (tl th : TOp) (E : XP) (Q : QP) : Bs → PSt → PHp → Prop := fun b ρ1 M1 => tl ρ1 M1 E (ksl2 g b th E Q)
theorem u_sl {g : D → Option Int → Option Int → TEp} {tl th : TOp} : pSl g tb tl th ρ M E Q = tb ρ M E (ksl1 g tl th E Q) := rfl
theorem u_sl1 {g : D → Option Int → Option Int → TEp} {tl th : TOp} {b : Bs} : ksl1 g tl th E Q b ρ M = tl ρ M E (ksl2 g b th E Q) := rfl
theorem u_sl2 {g : D → Option Int → Option Int → TEp} {th : TOp} {b : Bs} {lo : Option Int} : ksl2 g b th E Q lo ρ M = th ρ M E (ksl3 g b lo E Q) := rfl
theorem u_sl3 {g : D → Option Int → Option Int → TEp} {b : Bs} {lo hi : Option Int} : ksl3 g b lo E Q hi ρ M = slK (b.get ρ M) g lo hi ρ M E Q := rfl
theorem u_sl4 {g : D → Option Int → Option Int → TEp} {lo hi : Option Int} : slK (some d) g lo hi ρ M E Q = g d lo hi ρ M E Q := rfl
def lmP (o : Option (PSt × PHp)) (Q : QP) (r : D) : Prop := match o with | some x => Q r x.1 x.2 | none => False
theorem u_lmP : lmP (some (ρ, M)) Q d = Q d ρ M := rfl
def lmR (b : Bs) (ρ : PSt) (M : PHp) (Q : QP) : D → D → Prop := fun r c' => lmP (b.put ρ M c') Q r
theorem u_lmR {b : Bs} : lmR b ρ M Q d e = lmP (b.put ρ M e) Q d := rfl
def lmK (o : Option D) (mf : MF) (xs : List D) (k : D → D → Prop) : Prop := match o with | some c => mf c xs k | none => False
theorem u_lmK {mf : MF} {k : D → D → Prop} : lmK (some d) mf xs k = mf d xs k := rfl
def isLK (o : Option D) : Prop := match o with | some (.lst _) => True | _ => False
theorem u_isLK : isLK (some (.lst xs)) = True := rfl
def klm2 (mf : MF) (b : Bs) (Q : QP) : List D → PSt → PHp → Prop := fun xs ρ2 M2 => lmK (b.get ρ2 M2) mf xs (lmR b ρ2 M2 Q)
def klm1 (mf : MF) (ta : TAp) (E : XP) (Q : QP) : Bs → PSt → PHp → Prop := fun b ρ1 M1 => isLK (b.get ρ1 M1) ∧ ta ρ1 M1 E (klm2 mf b Q)
def MFmono (mf : MF) : Prop := ∀ c xs (k k' : D → D → Prop), (∀ a b, k a b → k' a b) → mf c xs k → mf c xs k'
theorem u_lm1 {mf : MF} {b : Bs} : klm1 mf ta E Q b ρ M = (isLK (b.get ρ M) ∧ ta ρ M E (klm2 mf b Q)) := rfl
theorem u_lm2 {mf : MF} {b : Bs} : klm2 mf b Q xs ρ M = lmK (b.get ρ M) mf xs (lmR b ρ M Q) := rfl
theorem isLK_eq {o : Option D} : isLK o = ∃ ds, o = some (.lst ds) := by
  unfold isLK
  split
  · simp
  · rename_i h
    simp only [eq_iff_iff, false_iff, not_exists]
    exact h
theorem lmK_eq {o : Option D} {mf : MF} {k : D → D → Prop} : lmK o mf xs k = ∃ c, o = some c ∧ mf c xs k := by
  unfold lmK
  cases o <;> simp
theorem lmP_eq {o : Option (PSt × PHp)} : lmP o Q d = ∃ ρ3 M3, o = some (ρ3, M3) ∧ Q d ρ3 M3 := by
  unfold lmP
  cases o with
  | none => simp
  | some x => obtain ⟨a, b⟩ := x; simp [and_assoc]
theorem u_lm {mf : MF} : pLm mf tb ta ρ M E Q = tb ρ M E (klm1 mf ta E Q) := by
  unfold pLm
  congr 1
  funext b ρ1 M1
  rw [u_lm1, isLK_eq]
  congr 2
  funext xs ρ2 M2
  rw [u_lm2, lmK_eq]
  congr 1
  funext c
  congr 2
  funext r c'
  rw [u_lmR, lmP_eq]
def km2 (f : D → D → TEp) (a : D) (E : XP) (Q : QP) : QP := fun b ρ2 M2 => f (cn M2 a) (cn M2 b) ρ2 M2 E Q
def km1 (f : D → D → TEp) (u : TEp) (E : XP) (Q : QP) : QP := fun a ρ1 M1 => (∃ l, a = .str l) ∧ u ρ1 M1 E (km2 f a E Q)
theorem u_m1 : strM1 f t u ρ M E Q = t ρ M E (km1 f u E Q) := rfl
theorem u_m11 : km1 f u E Q (.str a) ρ M = u ρ M E (km2 f (.str a) E Q) := by unfold km1; simp
theorem u_m12 : km2 f d E Q e ρ M = f (cn M d) (cn M e) ρ M E Q := rfl
def kXC (E : XP) (ρ : PSt) : XC := fun c g M2 => E c g ρ M2
def kQC (Q : QP) (ρ : PSt) : D → PHp → Prop := fun d M2 => Q d ρ M2
def kQO (Q : QP) (ρ : PSt) : D → PHp → Prop := fun d M2 => isCell d = true ∧ Q d ρ M2
theorem u_kXC {c : Str} : kXC E ρ c d M = E c d ρ M := rfl
theorem u_kQC : kQC Q ρ d M = Q d ρ M := rfl
theorem u_kQO : kQO Q ρ d M = (isCell d = true ∧ Q d ρ M) := rfl
def kcall (n : Nat) (sp : SpP) (dvs : List D) (E : XP) (Q : QP) : List D → PSt → PHp → Prop := fun ds ρ' M' => (ds ++ dvs).length = n ∧ sp (ds ++ dvs) M' (kXC E ρ') (kQC Q ρ')
def kcallO (n : Nat) (sp : SpP) (dvs : List D) (E : XP) (Q : QP) : List D → PSt → PHp → Prop := fun ds ρ' M' => (ds ++ dvs).length = n ∧ sp (ds ++ dvs) M' (kXC E ρ') (kQO Q ρ')
theorem u_call {sp : SpP} {dvs : List D} : pCall n sp dvs ta ρ M E Q = ta ρ M E (kcall n sp dvs E Q) := rfl
theorem u_call1 {sp : SpP} {dvs : List D} : kcall n sp dvs E Q xs ρ M = ((xs ++ dvs).length = n ∧ sp (xs ++ dvs) M (kXC E ρ) (kQC Q ρ)) := rfl
theorem u_callO {sp : SpP} {dvs : List D} : pCallO n sp dvs ta ρ M E Q = ta ρ M E (kcallO n sp dvs E Q) := rfl
theorem u_callO1 {sp : SpP} {dvs : List D} : kcallO n sp dvs E Q xs ρ M = ((xs ++ dvs).length = n ∧ sp (xs ++ dvs) M (kXC E ρ) (kQO Q ρ)) := rfl
def kcell (Q : QP) : QP := fun d ρ' M' => ∀ a, M' a = none → Q (.ref a) ρ' (updM M' a d)
theorem u_cell : pCell t ρ M E Q = t ρ M E (kcell Q) := rfl
def kst2 (ds : List D) (Qa : List D → PSt → PHp → Prop) : List D → PSt → PHp → Prop := fun es ρ2 M2 => Qa (ds ++ es) ρ2 M2
def kst (ta : TAp) (E : XP) (Qa : List D → PSt → PHp → Prop) : QP := fun d ρ1 M1 => match d with | .lst ds => ta ρ1 M1 E (kst2 ds Qa) | .tup ds => ta ρ1 M1 E (kst2 ds Qa) | _ => False
theorem u_star : pStar t ta ρ M E Qa = t ρ M E (kst ta E Qa) := rfl
theorem u_star1 : kst ta E Qa (.lst xs) ρ M = ta ρ M E (kst2 xs Qa) := rfl
theorem u_star2 : kst ta E Qa (.tup xs) ρ M = ta ρ M E (kst2 xs Qa) := rfl
theorem u_star3 : kst2 xs Qa ys ρ M = Qa (xs ++ ys) ρ M := rfl
def kstr (Q : QP) : List Nat → PSt → PHp → Prop := fun l ρ' M' => Q (.str l) ρ' M'
def kjs (l : List TEp) (a : List Nat) (E : XP) (Ql : List Nat → PSt → PHp → Prop) : QP := fun d ρ' M' => ∃ l', d = .str l' ∧ (a ++ l').length ≤ 16777216 ∧ jsD l (a ++ l') ρ' M' E Ql
theorem u_js {l : List TEp} : pJs l ρ M E Q = jsD l [] ρ M E (kstr Q) := rfl
theorem u_jsS : kstr Q a ρ M = Q (.str a) ρ M := rfl
theorem u_js0 {Ql : List Nat → PSt → PHp → Prop} : jsD [] a ρ M E Ql = Ql a ρ M := rfl
theorem u_js1 {l : List TEp} {Ql : List Nat → PSt → PHp → Prop} : jsD (t :: l) a ρ M E Ql = t ρ M E (kjs l a E Ql) := rfl
theorem u_js2 {l : List TEp} {Ql : List Nat → PSt → PHp → Prop} : kjs l a E Ql (.str b) ρ M = ((a ++ b).length ≤ 16777216 ∧ jsD l (a ++ b) ρ M E Ql) := by unfold kjs; simp
def kxg (a dd : Addr) (Q : QP) : QP := fun x ρ' M' => ∃ c g, x = .exc a dd c g ∧ Q g ρ' M'
def kxi (a dd : Addr) (Q : QP) : QP := fun x ρ' M' => (∃ c g, x = .exc a dd c g) ∧ Q (.bl true) ρ' M'
theorem u_xg {a dd : Addr} : pXG a dd t ρ M E Q = t ρ M E (kxg a dd Q) := rfl
theorem u_xg1 {a dd : Addr} {c : Str} : kxg a dd Q (.exc a dd c d) ρ M = Q d ρ M := by unfold kxg; simp [and_assoc]
theorem u_xi {a dd : Addr} : pXI a dd t ρ M E Q = t ρ M E (kxi a dd Q) := rfl
theorem u_xi1 {a dd : Addr} {c : Str} : kxi a dd Q (.exc a dd c d) ρ M = Q (.bl true) ρ M := by unfold kxi; simp
/-! statements -/
def nxK (us : TSp) (E : XP) (D : EndsP) : EndsP := { D with nx := fun ρ' M' => us E D ρ' M' }
theorem u_seq : sSeq ts us E D' ρ M = ts E (nxK us E D') ρ M := rfl
theorem u_nx : (nxK us E D').nx ρ M = us E D' ρ M := rfl
theorem u_nxr : (nxK us E D').rt = D'.rt := rfl
theorem u_nxb : (nxK us E D').bk = D'.bk := rfl
theorem u_nxc : (nxK us E D').ct = D'.ct := rfl
def endsK (Q0 : D → PHp → Prop) : EndsP := { nx := fun _ M => Q0 .non M, rt := fun d _ M => Q0 d M }
theorem u_ends {Q0 : D → PHp → Prop} : ({ nx := fun _ M => Q0 .non M, rt := fun d _ M => Q0 d M } : EndsP) = endsK Q0 := rfl
theorem u_endn {Q0 : D → PHp → Prop} : (endsK Q0).nx ρ M = Q0 .non M := rfl
theorem u_endr {Q0 : D → PHp → Prop} : (endsK Q0).rt d ρ M = Q0 d M := rfl
theorem u_next : sNext E D' ρ M = D'.nx ρ M := rfl
theorem u_brk : sBrk E D' ρ M = D'.bk ρ M := rfl
theorem u_cont : sCont E D' ρ M = D'.ct ρ M := rfl
def kdrop (D : EndsP) : QP := fun _ ρ' M' => D.nx ρ' M'
theorem u_drop : sDrop t E D' ρ M = t ρ M E (kdrop D') := rfl
theorem u_drop1 : kdrop D' d ρ M = D'.nx ρ M := rfl
def kset (k : Nat) (D : EndsP) : QP := fun d ρ' M' => D.nx (ρ'.set k (some (.fz d))) M'
def ksetO (k : Nat) (D : EndsP) : QP := fun d ρ' M' => D.nx (ρ'.set k (some (.own d))) M'
theorem u_set : sSet k t E D' ρ M = t ρ M E (kset k D') := rfl
theorem u_set1 : kset k D' d ρ M = D'.nx (ρ.set k (some (.fz d))) M := rfl
theorem u_setO : sSetO k t E D' ρ M = t ρ M E (ksetO k D') := rfl
theorem u_setO1 : ksetO k D' d ρ M = D'.nx (ρ.set k (some (.own d))) M := rfl
theorem u_sret : sRet t E D' ρ M = t ρ M E D'.rt := rfl
def kretS (D : EndsP) : QP := fun d ρ' M' => isCell d = false ∧ D.rt d ρ' M'
theorem u_sretS : sRetS t E D' ρ M = t ρ M E (kretS D') := rfl
theorem u_sretS1 : kretS D' d ρ M = (isCell d = false ∧ D'.rt d ρ M) := rfl
theorem u_sretN : sRetN E D' ρ M = D'.rt .non ρ M := rfl
def ksif (ts us : TSp) (E : XP) (D : EndsP) : Bool → PSt → PHp → Prop := fun b ρ' M' => if b = true then ts E D ρ' M' else us E D ρ' M'
theorem u_sif : sIf tt ts us E D' ρ M = tt ρ M E (ksif ts us E D') := rfl
theorem u_sif1 : ksif ts us E D' p ρ M = if p = true then ts E D' ρ M else us E D' ρ M := rfl
theorem u_never : sNever E D' ρ M = False := rfl
def kaug2 (k : Nat) (D : EndsP) : QP := fun z ρ2 M2 => D.nx (ρ2.set k (some (.fz z))) M2
def kaug1 (k : Nat) (f : D → D → TEp) (d : D) (E : XP) (D' : EndsP) : QP := fun y ρ1 M1 => f (cn M1 d) (cn M1 y) ρ1 M1 E (kaug2 k D')
def augK (s : Option (Option SV)) (k : Nat) (f : D → D → TEp) (t : TEp) (E : XP) (D : EndsP) (ρ : PSt) (M : PHp) : Prop := match s with | some (some (.fz d)) => t ρ M E (kaug1 k f d E D) | _ => False
theorem u_aug : sAug k f t E D' ρ M = augK ρ[k]? k f t E D' ρ M := rfl
theorem u_aug1 : augK (some (some (.fz d))) k f t E D' ρ M = t ρ M E (kaug1 k f d E D') := rfl
theorem u_aug2 : kaug1 k f d E D' e ρ M = f (cn M d) (cn M e) ρ M E (kaug2 k D') := rfl
theorem u_aug3 : kaug2 k D' d ρ M = D'.nx (ρ.set k (some (.fz d))) M := rfl
def kasg (g : TGp) (D : EndsP) : QP := fun d ρ' M' => g d ρ' M' D.nx
theorem u_asg {g : TGp} : sAsg t g E D' ρ M = t ρ M E (kasg g D') := rfl
theorem u_asg1 {g : TGp} : kasg g D' d ρ M = g d ρ M D'.nx := rfl
def putE (o : Option (PSt × PHp)) (D : EndsP) : Prop := match o with | some x => D.nx x.1 x.2 | none => False
theorem u_putE : putE (some (ρ, M)) D' = D'.nx ρ M := rfl
def kputR (b : Bs) (ρ : PSt) (M : PHp) (De : EndsP) : D → Prop := fun c' => putE (b.put ρ M c') De
theorem u_putQ {b : Bs} : kputR b ρ M D' d = putE (b.put ρ M d) D' := rfl
def setK (o : Option D) (k v : D) (R : D → Prop) : Prop := match o with | some c => setM c k v R | none => False
theorem u_setK {R : D → Prop} {x : D} : setK (some x) d e R = setM x d e R := rfl
def kput3 (b : Bs) (v : D) (D : EndsP) : QP := fun k ρ3 M3 => setK (b.get ρ3 M3) k v (kputR b ρ3 M3 D)
def kput2 (ti : TEp) (v : D) (E : XP) (D : EndsP) : Bs → PSt → PHp → Prop := fun b ρ2 M2 => ti ρ2 M2 E (kput3 b v D)
def kput1 (tb : TBp) (ti : TEp) (E : XP) (D : EndsP) : QP := fun v ρ1 M1 => tb ρ1 M1 E (kput2 ti v E D)
theorem u_put1 {ti : TEp} : kput1 tb ti E D' d ρ M = tb ρ M E (kput2 ti d E D') := rfl
theorem u_put2 {ti : TEp} {b : Bs} : kput2 ti d E D' b ρ M = ti ρ M E (kput3 b d D') := rfl
theorem u_put3 {b : Bs} : kput3 b d D' e ρ M = setK (b.get ρ M) e d (kputR b ρ M D') := rfl
theorem putE_eq {o : Option (PSt × PHp)} : putE o D' = ∃ ρ3 M3, o = some (ρ3, M3) ∧ D'.nx ρ3 M3 := by
  unfold putE
  cases o with
  | none => simp
  | some x => obtain ⟨a, b⟩ := x; simp [and_assoc]
theorem u_put {ti : TEp} : sPut tb ti t E D' ρ M = t ρ M E (kput1 tb ti E D') := by
  unfold sPut
  congr 1
  funext v ρ1 M1
  rw [u_put1]
  congr 1
  funext b ρ2 M2
  rw [u_put2]
  congr 1
  funext k ρ3 M3
  rw [u_put3]
  unfold setK
  cases e : b.get ρ3 M3 with
  | none => simp
  | some c =>
    simp only [Option.some.injEq, exists_eq_left']
    congr 1
    funext c'
    rw [u_putQ, putE_eq]
def kraise (c : Str) (E : XP) : QP := fun g ρ' M' => E c g ρ' M'
theorem u_raise {c : Str} : sRaise c t E D' ρ M = t ρ M E (kraise c E) := rfl
theorem u_raise1 {c : Str} : kraise c E d ρ M = E c d ρ M := rfl
def kfor (g : TGp) (ts : TSp) (E : XP) (D : EndsP) : List CM.D → (PHp → Prop) → PSt → PHp → Prop := fun ds chk ρ' M' => forP g ts chk E D ds ρ' M'
theorem u_for {it : TItp} {g : TGp} : sFor it g ts E D' ρ M = it ρ M E (kfor g ts E D') := rfl
theorem u_for1 {g : TGp} {chk : PHp → Prop} : kfor g ts E D' xs chk ρ M = forP g ts chk E D' xs ρ M := rfl
def tryD (k : Nat) (D : EndsP) : EndsP := { nx := fun ρ2 M2 => D.nx (ρ2.set k none) M2, rt := D.rt, bk := fun ρ2 M2 => D.bk (ρ2.set k none) M2, ct := fun ρ2 M2 => D.ct (ρ2.set k none) M2 }
theorem u_tryn : (tryD k D').nx ρ M = D'.nx (ρ.set k none) M := rfl
theorem u_tryr : (tryD k D').rt = D'.rt := rfl
def tryX (L : List Str) (c : Str) (k : Nat) (tsx : Addr → Addr → TSp) (E : XP) (D : EndsP) : XP := fun cc g ρ1 M1 => cc ∈ L ∧ if cc = c then ∀ a dd, tsx a dd noX (tryD k D) (ρ1.set k (some (.fz (.exc a dd cc g)))) M1 else E cc g ρ1 M1
theorem u_try {L : List Str} {c : Str} {tsx : Addr → Addr → TSp} : sTryAs L c k ts tsx E D' ρ M = ts (tryX L c k tsx E D') D' ρ M := rfl
theorem u_try1 {L : List Str} {c cc : Str} {tsx : Addr → Addr → TSp} : tryX L c k tsx E D' cc d ρ M = (cc ∈ L ∧ if cc = c then ∀ a dd, tsx a dd noX (tryD k D') (ρ.set k (some (.fz (.exc a dd cc d)))) M else E cc d ρ M) := rfl
theorem u_gn : gN k d ρ M R = R (ρ.set k (some (.fz d))) M := rfl
theorem u_gt {gs : TGsp} : gT n gs (.tup xs) ρ M R = (xs.length = n ∧ gs xs ρ M R) := rfl
def kgc (gs : TGsp) (r : List D) (R : PSt → PHp → Prop) : PSt → PHp → Prop := fun ρ' M' => gs r ρ' M' R
theorem u_gnil : gNilP [] ρ M R = R ρ M := by unfold gNilP; simp
theorem u_gcons {g : TGp} {gs : TGsp} {d : D} : gConsP g gs (d :: xs) ρ M R = g d ρ M (kgc gs xs R) := by
  unfold gConsP kgc
  apply propext
  constructor
  · rintro ⟨a, b, h1, h2⟩
    cases h1
    exact h2
  · exact fun h => ⟨_, _, rfl, h⟩
theorem u_gc1 {gs : TGsp} : kgc gs xs R ρ M = gs xs ρ M R := rfl
def kll (Q : QP) : List D → PSt → PHp → Prop := fun acc ρ2 M2 => Q (.lst acc) ρ2 M2
def klc (g : TGp) (tt : TTp) (te : TEp) (vs : List Nat) (Q : QP) : List D → (PHp → Prop) → PSt → PHp → Prop := fun ds chk ρ' M' => ds.length ≤ 16777216 ∧ compP g tt te vs chk (kll Q) ds [] ρ' M'
theorem u_lc {it : TItp} {g : TGp} {vs : List Nat} : pLc it g tt t vs ρ M E Q = it ρ M E (klc g tt t vs Q) := rfl
theorem u_lc1 {g : TGp} {vs : List Nat} {chk : PHp → Prop} : klc g tt t vs Q xs chk ρ M = (xs.length ≤ 16777216 ∧ compP g tt t vs chk (kll Q) xs [] ρ M) := rfl
theorem u_lc2 : kll Q xs ρ M = Q (.lst xs) ρ M := rfl
theorem u_yes : tYesP ρ M E Qb = Qb true ρ M := rfl
def kiL (Qi : List D → (PHp → Prop) → PSt → PHp → Prop) : QP := fun d ρ' M' => match d with | .lst ds => Qi ds noChk ρ' M' | .ref a => ∃ ds, M' a = some (.lst ds) ∧ Qi ds (fun M => M a = some (.lst ds)) ρ' M' | _ => False
theorem u_iL : iL t ρ M E Qi = t ρ M E (kiL Qi) := rfl
theorem u_iL1 : kiL Qi (.lst xs) ρ M = Qi xs noChk ρ M := rfl
theorem u_iL2 {x : Addr} : kiL Qi (.ref x) ρ M = ∃ ds, M x = some (.lst ds) ∧ Qi ds (fun M => M x = some (.lst ds)) ρ M := rfl
def kiT (Qi : List D → (PHp → Prop) → PSt → PHp → Prop) : QP := fun d ρ' M' => match d with | .tup ds => Qi ds noChk ρ' M' | _ => False
theorem u_iT : iT t ρ M E Qi = t ρ M E (kiT Qi) := rfl
theorem u_iT1 : kiT Qi (.tup xs) ρ M = Qi xs noChk ρ M := rfl
def kiS (Qi : List D → (PHp → Prop) → PSt → PHp → Prop) : QP := fun d ρ' M' => match d with | .str l => Qi (l.map fun c => .str [c]) noChk ρ' M' | _ => False
theorem u_iS : iS t ρ M E Qi = t ρ M E (kiS Qi) := rfl
theorem u_iS1 : kiS Qi (.str a) ρ M = Qi (a.map fun c => .str [c]) noChk ρ M := rfl
def kR1 (Qi : List D → (PHp → Prop) → PSt → PHp → Prop) : List D → PSt → PHp → Prop := fun ds ρ' M' => match ds with | [.int j] => (-(2 ^ 62) ≤ j ∧ j < 2 ^ 62) ∧ Qi (rangeD 0 j.toNat) noChk ρ' M' | _ => False
theorem u_iR1 : iR1 ta ρ M E Qi = ta ρ M E (kR1 Qi) := rfl
theorem u_iR11 : kR1 Qi [.int j] ρ M = ((-(2 ^ 62) ≤ j ∧ j < 2 ^ 62) ∧ Qi (rangeD 0 j.toNat) noChk ρ M) := rfl
def kR2 (Qi : List D → (PHp → Prop) → PSt → PHp → Prop) : List D → PSt → PHp → Prop := fun ds ρ' M' => match ds with | [.int i, .int j] => (-(2 ^ 62) ≤ i ∧ i < 2 ^ 62 ∧ -(2 ^ 62) ≤ j ∧ j < 2 ^ 62) ∧ Qi (rangeD i (j - i).toNat) noChk ρ' M' | _ => False
theorem u_iR2 : iR2 ta ρ M E Qi = ta ρ M E (kR2 Qi) := rfl
theorem u_iR21 : kR2 Qi [.int i, .int j] ρ M = ((-(2 ^ 62) ≤ i ∧ i < 2 ^ 62 ∧ -(2 ^ 62) ≤ j ∧ j < 2 ^ 62) ∧ Qi (rangeD i (j - i).toNat) noChk ρ M) := rfl
def fnX (E0 : XC) : XP := fun c g _ M => E0 c g M
theorem u_fnX {E0 : XC} {c : Str} : fnX E0 c d ρ M = E0 c d M := rfl
/-! by values -/
theorem n_non : cn M .non = .non := rfl
theorem n_bl : cn M (.bl p) = .bl p := rfl
theorem n_int : cn M (.int i) = .int i := rfl
theorem n_str : cn M (.str a) = .str a := rfl
theorem n_ty {x : String} : cn M (.ty x) = .ty x := rfl
theorem n_lst : cn M (.lst xs) = .lst xs := rfl
theorem n_tup : cn M (.tup xs) = .tup xs := rfl
theorem n_dK {x : List (Key × D)} : cn M (.dK x) = .dK x := rfl
theorem n_exc {x y : Addr} {c : Str} : cn M (.exc x y c d) = .exc x y c d := rfl
theorem n_scr {x : List Int} : cn M (.scr x) = .scr x := rfl
theorem n_ref {x : Addr} : cn M (.ref x) = (M x).getD (.ref x) := rfl
theorem d_add1 : addD (.int i) (.int j) ρ M E Q = Q (.int (i + j)) ρ M := rfl
theorem d_add2 : addD (.str a) (.str b) ρ M E Q = (a.length + b.length ≤ 16777216 ∧ Q (.str (a ++ b)) ρ M) := rfl
theorem d_add3 : addD (.lst xs) (.lst ys) ρ M E Q = (xs.length + ys.length ≤ 16777216 ∧ Q (.lst (xs ++ ys)) ρ M) := rfl
theorem d_addL : addL (.lst xs) (.lst ys) ρ M E Q = (xs.length + ys.length ≤ 16777216 ∧ Q (.lst (xs ++ ys)) ρ M) := rfl
theorem d_iadd1 : iaddD (.int i) (.int j) ρ M E Q = Q (.int (i + j)) ρ M := rfl
theorem d_iadd2 : iaddD (.str a) (.str b) ρ M E Q = (a.length + b.length ≤ 16777216 ∧ Q (.str (a ++ b)) ρ M) := rfl
theorem d_sub : subD (.int i) (.int j) ρ M E Q = Q (.int (i - j)) ρ M := rfl
theorem d_mul1 : mulD (.int i) (.int j) ρ M E Q = (CMul i j ∧ Q (.int (i * j)) ρ M) := rfl
theorem d_mul2 : mulD (.str a) (.int j) ρ M E Q = ((0 ≤ j ∧ a.length * j.toNat ≤ 16777216 ∧ j ≤ 16777216) ∧ Q (.str (repL a j.toNat)) ρ M) := rfl
theorem d_mul3 : mulD (.lst xs) (.int j) ρ M E Q = ((-(2 ^ 63) ≤ j ∧ j < 2 ^ 63 ∧ xs.length * j.toNat ≤ 16777216) ∧ Q (.lst (List.replicate j.toNat xs).flatten) ρ M) := rfl
theorem d_fdiv : fdivD (.int i) (.int j) ρ M E Q = (CDiv i j ∧ Q (.int (i / j)) ρ M) := rfl
theorem d_mod : modD (.int i) (.int j) ρ M E Q = (0 < j ∧ Q (.int (i % j)) ρ M) := rfl
theorem d_pow : powD (.int i) (.int j) ρ M E Q = (CPow i j ∧ Q (.int (i ^ j.toNat)) ρ M) := rfl
theorem d_lt : ltD (.int i) (.int j) ρ M E Q = Q (.bl (decide (i < j))) ρ M := rfl
theorem d_le : leD (.int i) (.int j) ρ M E Q = Q (.bl (decide (i ≤ j))) ρ M := rfl
theorem d_gt : gtD (.int i) (.int j) ρ M E Q = Q (.bl (decide (j < i))) ρ M := rfl
theorem d_ge : geD (.int i) (.int j) ρ M E Q = Q (.bl (decide (j ≤ i))) ρ M := rfl
theorem d_neg : negD (.int i) ρ M E Q = Q (.int (-i)) ρ M := rfl
theorem d_eq1 : eqR p (.int i) (.int j) ρ M E Q = Q (.bl (xor p (decide (i = j)))) ρ M := rfl
theorem d_eq2 : eqR p (.str a) (.str b) ρ M E Q = Q (.bl (xor p (decide (a = b)))) ρ M := rfl
theorem d_eq3 : eqR p (.lst xs) d ρ M E Q = ((plain 12 (.lst xs) = true ∧ plain 12 d = true) ∧ Q (.bl (xor p (eqD (.lst xs) d))) ρ M) := by cases d <;> rfl
theorem d_eq4 : eqR p (.tup xs) d ρ M E Q = ((plain 12 (.tup xs) = true ∧ plain 12 d = true) ∧ Q (.bl (xor p (eqD (.tup xs) d))) ρ M) := by cases d <;> rfl
theorem d_eq5 : eqR p .non d ρ M E Q = ((plain 12 .non = true ∧ plain 12 d = true) ∧ Q (.bl (xor p (eqD .non d))) ρ M) := by cases d <;> rfl
theorem d_eq6 : eqR p (.bl q) d ρ M E Q = ((plain 12 (.bl q) = true ∧ plain 12 d = true) ∧ Q (.bl (xor p (eqD (.bl q) d))) ρ M) := by cases d <;> rfl
theorem d_eq7 : eqR p (.dK []) (.dK []) ρ M E Q = Q (.bl (xor p true)) ρ M := rfl
theorem d_isN : isN p d .non ρ M E Q = ((∀ q, d ≠ .ref q) ∧ Q (.bl (xor p (isNon d))) ρ M) := rfl
theorem d_isB {r : Bool} : isB p (.bl q) (.bl r) ρ M E Q = Q (.bl (xor p (decide (q = r)))) ρ M := rfl
theorem d_in1 : inD p (.str [n]) (.str b) ρ M E Q = Q (.bl (xor p (decide (n ∈ b)))) ρ M := by
  show (∃ c, [n] = [c] ∧ Q (.bl (xor p (decide (c ∈ b)))) ρ M) = _
  simp
theorem d_in2 : inD p d (.lst xs) ρ M E Q = ((plain 12 d = true ∧ xs.all (plain 11) = true) ∧ Q (.bl (xor p (xs.any fun z => eqD z d))) ρ M) := by cases d <;> rfl
theorem d_ix1 : ixD (.lst xs) (.int i) ρ M E Q = pOpt (atI xs i) pRet ρ M E Q := rfl
theorem d_ix2 : ixD (.tup xs) (.int i) ρ M E Q = pOpt (atI xs i) pRet ρ M E Q := rfl
theorem d_ix3 : ixD (.str a) (.int i) ρ M E Q = (a.length ≤ 16777216 ∧ pOpt (atI a i) (fun c => pRet (.str [c])) ρ M E Q) := rfl
theorem d_sl1 {lo hi : Option Int} : slD (.lst xs) lo hi ρ M E Q = Q (.lst (cutD xs lo hi)) ρ M := rfl
theorem d_sl2 {lo hi : Option Int} : slD (.tup xs) lo hi ρ M E Q = Q (.tup (cutD xs lo hi)) ρ M := rfl
theorem d_sl3 {lo hi : Option Int} : slD (.str a) lo hi ρ M E Q = (a.length ≤ 16777216 ∧ Q (.str (cutN a lo hi)) ρ M) := rfl
theorem d_sl4 {lo hi : Option Int} : slL (.lst xs) lo hi ρ M E Q = Q (.lst (cutD xs lo hi)) ρ M := rfl
theorem d_len1 : lenD [.str a] ρ M E Q = (a.length ≤ 16777216 ∧ Q (.int a.length) ρ M) := rfl
theorem d_len2 : lenD [.lst xs] ρ M E Q = Q (.int xs.length) ρ M := rfl
theorem d_len3 : lenD [.tup xs] ρ M E Q = Q (.int xs.length) ρ M := rfl
theorem d_abs : absD [.int i] ρ M E Q = Q (.int (if i < 0 then -i else i)) ρ M := rfl
theorem d_max1 : maxD [.int i, .int j] ρ M E Q = Q (.int (if j > i then j else i)) ρ M := rfl
theorem d_max2 : maxD [.lst xs] ρ M E Q = pOpt (dInts xs) (fun ns => pGu (ns ≠ []) (pRet (.int (maxI ns)))) ρ M E Q := rfl
theorem d_min1 : minD [.int i, .int j] ρ M E Q = Q (.int (if j < i then j else i)) ρ M := rfl
theorem d_min2 : minD [.lst xs] ρ M E Q = pOpt (dInts xs) (fun ns => pGu (ns ≠ []) (pRet (.int (minI ns)))) ρ M E Q := rfl
theorem d_sum : sumD [.lst xs] ρ M E Q = pOpt (dInts xs) (fun ns => pRet (.int ns.sum)) ρ M E Q := rfl
theorem d_all : allD [.lst xs] ρ M E Q = pOpt (dBools xs) (fun ns => pRet (.bl (ns.all id))) ρ M E Q := rfl
theorem d_int1 : intD [.int i] ρ M E Q = Q (.int i) ρ M := rfl
theorem d_int2 : intD [.bl p] ρ M E Q = Q (.int (if p then 1 else 0)) ρ M := rfl
theorem d_int3 : intD [.str a] ρ M E Q = pOpt (PySem.intText? (sL a)) (fun n => pGu (a.length ≤ 640) (pRet (.int n))) ρ M E Q := rfl
theorem d_str : strD [.int i] ρ M E Q = (i.natAbs.log2 < 1920 ∧ Q (.str (numS i)) ρ M) := rfl
theorem d_isi {U : String} : isiD [d, .ty U] ρ M E Q = pOpt (tyD d) (fun T => pGu (okTy U = true) (pRet (.bl (subTy T U)))) ρ M E Q := rfl
theorem d_list1 : listD [.lst xs] ρ M E Q = Q (.lst xs) ρ M := rfl
theorem d_list2 : listD [.tup xs] ρ M E Q = Q (.lst xs) ρ M := rfl
theorem d_list3 {ns : List Int} : listD [.scr ns] ρ M E Q = Q (.lst (ns.map D.int)) ρ M := rfl
theorem d_tup1 : tupD [.lst xs] ρ M E Q = Q (.tup xs) ρ M := rfl
theorem d_tup2 : tupD [.tup xs] ρ M E Q = Q (.tup xs) ρ M := rfl
theorem d_join : joinD (.str a) (.lst xs) ρ M E Q = pOpt (dStrs xs) (fun ws => pGu ((ws.map (·.length)).sum + ws.length * a.length ≤ 16777216) (pRet (.str (TL.joinL a ws)))) ρ M E Q := rfl
theorem d_split : splitD (.str a) (.str [n]) ρ M E Q = ((n < 256 ∧ a.length ≤ 16777214) ∧ Q (.lst ((splitL n a).map D.str)) ρ M) := rfl
theorem d_fmt1 : fmtD (.str a) ρ M E Q = (a.length ≤ 16777216 ∧ Q (.str a) ρ M) := rfl
theorem d_fmt2 : fmtD (.int i) ρ M E Q = (i.natAbs.log2 < 1920 ∧ Q (.str (numS i)) ρ M) := rfl
theorem d_app {K : D → D → Prop} : appM (.lst xs) [d] K = (xs.length < 16777216 ∧ K .non (.lst (xs ++ [d]))) := rfl
theorem d_pop0 {K : D → D → Prop} : popM (.lst xs) [] K = ∃ y, xs.getLast? = some y ∧ K y (.lst xs.dropLast) := rfl
theorem d_pop1 {K : D → D → Prop} : popM (.lst xs) [.int i] K = (0 ≤ i ∧ i < 16777216 ∧ ∃ y, xs[i.toNat]? = some y ∧ K y (.lst (xs.eraseIdx i.toNat))) := rfl
theorem d_clear {K : D → D → Prop} : clearM (.lst xs) [] K = K .non (.lst []) := rfl
theorem d_ext {K : D → D → Prop} : extM (.lst xs) [.lst ys] K = (xs.length + ys.length ≤ 16777216 ∧ K .non (.lst (xs ++ ys))) := rfl
theorem d_put {K : D → Prop} : setM (.lst xs) (.int i) d K = ∃ j, ixN xs.length i = some j ∧ K (.lst (xs.set j d)) := rfl
theorem t_non : tyD .non = some "NoneType" := rfl
theorem t_bl : tyD (.bl p) = some "bool" := rfl
theorem t_int : tyD (.int i) = some "int" := rfl
theorem t_str : tyD (.str a) = some "str" := rfl
theorem t_lst : tyD (.lst xs) = some "list" := rfl
theorem t_tup : tyD (.tup xs) = some "tuple" := rfl
theorem t_dK {x : List (Key × D)} : tyD (.dK x) = some "dict" := rfl
theorem r_non : truD .non = some false := rfl
theorem r_bl : truD (.bl p) = some p := rfl
theorem r_int : truD (.int i) = some (i != 0) := rfl
theorem r_lst : truD (.lst xs) = some (!xs.isEmpty) := rfl
theorem p_non : isNon .non = true := rfl
theorem p_bl : isNon (.bl p) = false := rfl
theorem p_int : isNon (.int i) = false := rfl
theorem p_str : isNon (.str a) = false := rfl
theorem p_lst : isNon (.lst xs) = false := rfl
theorem p_tup : isNon (.tup xs) = false := rfl
theorem l_str : plain (n + 1) (.str a) = a.all fun c => decide (c < 1114112) := rfl
theorem l_lst : plain (n + 1) (.lst xs) = xs.all (plain n) := rfl
theorem l_tup : plain (n + 1) (.tup xs) = xs.all (plain n) := rfl
theorem l_int : plain n (.int i) = true := by cases n <;> rfl
theorem l_bl : plain n (.bl p) = true := by cases n <;> rfl
theorem l_non : plain n .non = true := by cases n <;> rfl
/-! == of data -/
theorem e_ii : eqD (.int i) (.int j) = decide (i = j) := rfl
theorem e_ss : eqD (.str a) (.str b) = decide (a = b) := by
  show (sL a == sL b) = _
  rw [Bool.eq_iff_iff, beq_iff_eq, decide_eq_true_eq]
  exact ⟨sL_inj, fun h => by rw [h]⟩
theorem e_bb : eqD (.bl p) (.bl q) = (p == q) := rfl
theorem e_nn : eqD .non .non = true := rfl
theorem e_ll : eqD (.lst xs) (.lst ys) = eqDs xs ys := rfl
theorem e_tt : eqD (.tup xs) (.tup ys) = eqDs xs ys := rfl
theorem e_0 : eqDs [] [] = true := rfl
theorem e_c : eqDs (d :: xs) (e :: ys) = (eqD d e && eqDs xs ys) := rfl
theorem e_0c : eqDs [] (e :: ys) = false := rfl
theorem e_c0 : eqDs (d :: xs) [] = false := rfl
theorem e_ns : eqD .non (.str a) = false := rfl
theorem e_sn : eqD (.str a) .non = false := rfl
theorem e_sl : eqD (.str a) (.lst xs) = false := rfl
theorem e_ls : eqD (.lst xs) (.str a) = false := rfl
theorem e_st : eqD (.str a) (.tup xs) = false := rfl
theorem e_ts : eqD (.tup xs) (.str a) = false := rfl
theorem e_bs : eqD (.bl p) (.str a) = false := rfl
theorem e_sb : eqD (.str a) (.bl p) = false := rfl
theorem e_nt : eqD .non (.tup xs) = false := rfl
theorem e_tn : eqD (.tup xs) .non = false := rfl
theorem e_nl : eqD .non (.lst xs) = false := rfl
theorem e_ln : eqD (.lst xs) .non = false := rfl
theorem e_tl : eqD (.tup xs) (.lst ys) = false := rfl
theorem e_lt : eqD (.lst xs) (.tup ys) = false := rfl
theorem e_ni : eqD .non (.int i) = false := rfl
theorem e_in : eqD (.int i) .non = false := rfl
theorem e_is : eqD (.int i) (.str a) = false := rfl
theorem e_si : eqD (.str a) (.int i) = false := rfl
end
theorem eqD_self : ∀ (n : Nat) (d : D), plain n d = true → eqD d d = true := fun n d h => SeqAt.eqv_refl _ (plain_ok n d h).1
end CM

/-! what a law's text says of its exceptions -/
namespace CM
open PySem PySem.Spec PyProof.Rows L2
def XMat (K : PySem.W.Frag) (mg : Str → Option Value) (L : List Str) : Prop := ∀ c ∈ L, ∀ c' ∈ L, ∀ C C', mg c = some (.ref C) → mg c' = some (.ref C') → PySem.W.exmOne K (.ref C) (.ref C') = some (decide (c = c'))
def XBas (K : PySem.W.Frag) (mg : Str → Option Value) (L : List Str) (b : Str) : Prop := ∃ Cm, mg b = some (.ref Cm) ∧ ∀ c ∈ L, ∀ C, mg c = some (.ref C) → (Value.ref C == Value.ref Cm) = false ∧ PySem.W.kitCls K (.ref C) (.ref Cm) = some true
/-- one row of the table: c against all of them -/
def XRow (K : PySem.W.Frag) (mg : Str → Option Value) (c : Str) (L : List Str) : Prop := ∀ c' ∈ L, ∀ C C', mg c = some (.ref C) → mg c' = some (.ref C') → PySem.W.exmOne K (.ref C) (.ref C') = some (decide (c = c'))
section
variable {K : PySem.W.Frag} {mg : Str → Option Value}
theorem xrow_nil {c : Str} : XRow K mg c [] := fun c' h => by cases h
theorem xrow_cons {c c1 : Str} {L : List Str} {C C1 : Addr} (h : mg c = some (.ref C)) (h1 : mg c1 = some (.ref C1)) (e : PySem.W.exmOne K (.ref C) (.ref C1) = some (decide (c = c1))) (r : XRow K mg c L) : XRow K mg c (c1 :: L) := fun c' hc A B hA hB => by
  rcases List.mem_cons.mp hc with rfl | hc
  · rw [h] at hA
    rw [h1] at hB
    cases hA
    cases hB
    exact e
  · exact r c' hc A B hA hB
theorem xmat_of {L : List Str} (h : ∀ c ∈ L, XRow K mg c L) : XMat K mg L := fun c hc c' hc' C C' e e' => h c hc c' hc' C C' e e'
theorem xbas_nil {b : Str} {Cm : Addr} (h : mg b = some (.ref Cm)) : XBas K mg [] b := ⟨Cm, h, fun c hc => by cases hc⟩
theorem xbas_cons {b c : Str} {L : List Str} {C Cm : Addr} (h : mg c = some (.ref C)) (hm : mg b = some (.ref Cm)) (e : (Value.ref C == Value.ref Cm) = false) (k : PySem.W.kitCls K (.ref C) (.ref Cm) = some true) (r : XBas K mg L b) : XBas K mg (c :: L) b := by
  obtain ⟨Cm', hm', r⟩ := r
  rw [hm] at hm'
  cases hm'
  refine ⟨Cm, hm, fun c' hc A hA => ?_⟩
  rcases List.mem_cons.mp hc with rfl | hc
  · rw [h] at hA
    cases hA
    exact ⟨e, k⟩
  · exact r c' hc A hA
end
def nonesP : Nat → PSt
  | 0 => []
  | n + 1 => none :: nonesP n
theorem u_nones0 : nonesP 0 = [] := rfl
theorem u_nonesS {n : Nat} : nonesP (n + 1) = none :: nonesP n := rfl
theorem nonesP_eq : ∀ n, List.replicate n none = nonesP n
  | 0 => rfl
  | n + 1 => by rw [List.replicate_succ, nonesP_eq n]; rfl
theorem u_start {N : List Str} {ds : List D} : startP N ds = ds.map (fun d => some (.fz d)) ++ nonesP (N.length - ds.length) := by
  unfold startP
  rw [nonesP_eq]
theorem updM_id {M : PHp} {b : Addr} {c : D} (h : M b = some c) : M = updM M b c := by
  funext x
  unfold updM
  split
  · rename_i e
    rw [e, h]
  · rfl
section
variable {P : Program} {w : World} {K : PySem.W.Frag} {mg : Str → Option Value} {base : Heap}
theorem Df.okQ {x : Str} {st : Stmt} {N ps : List Str} {k : Nat} {m : Bool} {sp : SpP} (Dd : Df K mg x st ps) (S : FnScope N ps (defScope st))
    (hbody : ∀ (f : Addr) (cdv : Value) (A : Around) (outer : List Env) (s : Shared) (H : Hp) (E : XK), Room k (A.deeper (envOfC x (defScope st) s.heap.objs.size f cdv)) → Takes (cxOf (L2.CX P w) P w K mg base N x (defScope st) f cdv A outer s H E) (fun cls d _ H => E cls d H) →
      PassesOwn (model P w) (cxOf (L2.CX P w) P w K mg base N x (defScope st) f cdv A outer s H E).A (cxOf (L2.CX P w) P w K mg base N x (defScope st) f cdv A outer s H E).env (cxOf (L2.CX P w) P w K mg base N x (defScope st) f cdv A outer s H E).xe →
      ∃ t, PSsp (fun cls d _ H => E cls d H) m (cxOf (L2.CX P w) P w K mg base N x (defScope st) f cdv A outer s H E) (defBody st) t ∧ ∀ ds M (E0 : XC) (Q0 : D → PHp → Prop), ds.length = ps.length → sp ds M E0 Q0 → t (fnX E0) (endsK Q0) (startP N ds) M) : FnP P w K mg base x (k + 1) ps m sp := Dd.okP S hbody
end
/-! ### the bag of draws -/
def BagC (c : D) : Prop := ∃ (ns : List Int) (i big mix cnt : Int), c = .lst [.lst (ns.map D.int), .int i, .int big, .int mix, .int cnt] ∧ 0 ≤ i ∧ 0 ≤ big
def BagP (M : PHp) (b : Addr) : Prop := ∃ c, M b = some c ∧ BagC c
theorem BagP.upd {M : PHp} {b : Addr} {c : D} (h : BagC c) : BagP (updM M b c) b := ⟨c, updM_same, h⟩
def sp_bag : SpP := fun ds M E Q => ∃ ns : List Int, (ds = [.lst (ns.map D.int)] ∨ ds = [.scr ns]) ∧ ∀ c, BagC c → Q c M
def sp_draw : SpP := fun ds M E Q => ∃ (b : Addr) (n : Int), ds = [.ref b, .int n] ∧ BagP M b ∧ 0 < n ∧ n < 1073741824 ∧ ∀ r c, 0 ≤ r → r < n → BagC c → Q (.int r) (updM M b c)
def sp_pick : SpP := fun ds M E Q => ∃ (b : Addr) (xs : List D), ds = [.ref b, .lst xs] ∧ BagP M b ∧ xs ≠ [] ∧ xs.length < 1000000 ∧ ∀ x c, x ∈ xs → BagC c → Q x (updM M b c)
def sp_mixed : SpP := fun ds M E Q => ∃ (b : Addr) (xs : List D), ds = [.ref b, .lst xs] ∧ BagP M b ∧ xs.length < 1000000 ∧ ∀ ys c, ys.Perm xs → BagC c → Q (.lst ys) (updM M b c)
end CM

/-! the pure layer: operators whose left side is looked at and stays one's own -/
namespace CM
open PySem PySem.Spec PyProof.Rows L2
section
variable {W : WX} {X : Cx} {a b : Expr} {tb : TBp} {t : TEp} {pos : Pos}
theorem pp_opB {f : D → D → TEp} {r : R2} {op : Operator} (ho : OpR X (binaryOp op) r) (hf : OpV X.K X.mg f r) (h1 : PBp W X a tb) (h2 : PEp W X b t) : PEp W X (.BinOp a op b pos) (pIx f tb t) := PE.imp (pe_op ho h1 h2) fun σ H Q h => ix_lift hf h
theorem pp_cmpB {f : D → D → TEp} {r : R2} {op : CmpOp} (ho : OpR X (compareOp op) r) (hf : OpV X.K X.mg f r) (h1 : PBp W X a tb) (h2 : PEp W X b t) (hm : behindInMarks op b = false) : PEp W X (.Compare a [op] [b] pos) (pIx f tb t) := PE.imp (pe_cmpR ho h1 h2 hm) fun σ H Q h => ix_lift hf h
theorem ptp_cmpB {f : D → D → TEp} {r : R2} {op : CmpOp} (ho : OpR X (compareOp op) r) (hf : OpV X.K X.mg f r) (h1 : PBp W X a tb) (h2 : PEp W X b t) (hm : behindInMarks op b = false) : PTp W X (.Compare a [op] [b] pos) (pTst (pIx f tb t)) := PT.imp (pt_cmpR ho h1 h2 hm) fun σ H Q h => ix_lift hf (tst_lift h)
end
/-! tables of exceptions, by what the head's own tactic answers -/
section
variable {K : PySem.W.Frag} {mg : Str → Option Value}
theorem kit_of {C C' : Addr} {b : Bool} (h2 : PySem.W.isClsIn K C' = true) (h3 : PySem.W.typeIn K (.ref C') = some (.type "type")) (h4 : PySem.W.subIn K (.ref C) (.ref C') = some b) : PySem.W.kitCls K (.ref C) (.ref C') = some b := by
  unfold PySem.W.kitCls
  have h2 : (PySem.W.clsIn K C').isSome = true := h2
  simp only [h2, h3, h4]
  rfl
theorem xrow_cons2 {c c1 : Str} {L : List Str} {C C1 : Addr} {b : Bool} (h : mg c = some (.ref C)) (h1 : mg c1 = some (.ref C1)) (e1 : PySem.W.subIn K (.ref C1) (.type "BaseException") = some true) (e2 : PySem.W.isClsIn K C1 = true) (e3 : PySem.W.typeIn K (.ref C1) = some (.type "type"))
    (e4 : PySem.W.subIn K (.ref C) (.ref C1) = some b) (eb : b = decide (c = c1)) (r : XRow K mg c L) : XRow K mg c (c1 :: L) := xrow_cons h h1 (by
  unfold PySem.W.exmOne
  rw [e1, kit_of e2 e3 e4, eb]
  rfl) r
theorem xbas_cons2 {b c : Str} {L : List Str} {C Cm : Addr} (h : mg c = some (.ref C)) (hm : mg b = some (.ref Cm)) (e : (Value.ref C == Value.ref Cm) = false) (e2 : PySem.W.isClsIn K Cm = true) (e3 : PySem.W.typeIn K (.ref Cm) = some (.type "type")) (e4 : PySem.W.subIn K (.ref C) (.ref Cm) = some true) (r : XBas K mg L b) : XBas K mg (c :: L) b := xbas_cons h hm e (kit_of e2 e3 e4) r
end
end CM

/-! the pure layer: several except clauses, each with a name -/
namespace CM
open PySem PySem.Spec PyProof.Rows L2
abbrev SuF := Addr → Value → Option Addr → TS
/-- the ends of a suite whose name, of slot i, goes -/
def offE (i : Nat) (D : Ends) : Ends := { nx := fun τ G => D.nx (τ.set i none) G, rt := D.rt, bk := fun τ G => D.bk (τ.set i none) G, ct := fun τ G => D.ct (τ.set i none) G }
def wAsN (K : PySem.W.Frag) (Wo : WX) (D : Ends) : List (Value × Nat × SuF) → WX
  | [] => Wo
  | z :: r => fun cls d τ G => ∃ b, PySem.W.exmOne K cls z.1 = some b ∧ (b = true → ∀ a, G a = none → z.2.2 a cls d (offE z.2.1 D) (τ.set z.2.1 (some (.ref a))) G) ∧ (b = false → wAsN K Wo D r cls d τ G)
inductive HdsN (X : Cx) : List ExceptHandler → List (Value × Nat × SuF) → Prop
  | nil : HdsN X [] []
  | cons {c : Value} {x n : Str} {i : Nat} {ts : SuF} {first : Stmt} {more : List Stmt} {p1 p2 : Pos} {hds : List ExceptHandler} {l : List (Value × Nat × SuF)} (slot : X.N[i]? = some n) (loc : X.env.kindOf n = some .local) (cls : Names X x c)
      (run : ∀ (e : Addr) (oe : Obj) (k : Value) (d : Option Addr) (pn : List (Addr × Obj)), Zc k d oe → (∃ fs, oe.data = .fields fs) → PSs (X.suite e ((e, oe) :: pn)) (first :: more) (ts e k d)) (rest : HdsN X hds l) :
      HdsN X (.ExceptHandler (some (.Name x p1)) (some n) (first :: more) p2 :: hds) ((c, i, ts) :: l)
/-- an exception that has landed in X at t -/
structure Lnd (X : Cx) (pins : List (Addr × Obj)) (e : Addr) (B : Heap) (sI t : Shared) (τ : L2.St) (G : Hp) (k : Value) (d : Option Addr) : Prop where
  inv : Inv X pins τ G sI
  old : ∀ b o, sI.heap.get? b = some o → b ∉ frs X.stack → B.get? b = some o
  up : sI.heap.UpToSlots t.heap
  new : G e = none
  os : t.os = sI.os
  gens : AllBare t.gens
  fly : HandSPX.FlyingZ B (X.env :: X.outer) e (Zc k d) t.heap
section
variable {X : Cx} {pins : List (Addr × Obj)} {Wo : WX} {D : Ends} {e : Addr} {B : Heap} {sI t : Shared} {τ : L2.St} {G : Hp} {k : Value} {d : Option Addr}
theorem Lnd.here (L : Lnd X pins e B sI t τ G k d) : Inv X pins τ G { t with heap := t.heap } := L.inv.landed L.old L.fly.1 L.up L.os L.gens
theorem Lnd.suite (L : Lnd X pins e B sI t τ G k d) (fm : X.env.frame = some X.env.locals) : ∃ oe fs, t.heap.get? e = some oe ∧ Zc k d oe ∧ oe.data = .fields fs ∧ Inv (X.suite e ((e, oe) :: (X.pn ++ pins))) [] τ G t := by
  obtain ⟨oe, fs, h1, h2, h3⟩ := L.fly.there
  have out : e ∉ frs (X.env :: X.outer) := fun m => by
    obtain ⟨_, o2, g2, no⟩ := L.fly.2.2.1.mem m
    rw [h1] at g2
    cases g2
    exact no _ h3
  exact ⟨oe, fs, h1, h2, h3, L.here.suite h1 h3 L.new (fun z => out (List.mem_filterMap.mpr ⟨_, .head _, by rw [fm, z]⟩)) fun m => by
    obtain ⟨en, g1, g2⟩ := List.mem_filterMap.mp m
    exact out (List.mem_filterMap.mpr ⟨en, .tail _ g1, g2⟩)⟩
theorem Lnd.later (L : Lnd X pins e B sI t τ G k d) {g : Heap} (f : HandSPX.FlyingZ B (X.env :: X.outer) e (Zc k d) g) (u : t.heap.UpToSlots g) : Lnd X pins e B sI { t with heap := g } τ G k d := ⟨L.inv, L.old, L.up.trans u, L.new, L.os, L.gens, f⟩
/-- no clause takes it -/
theorem Lnd.none (L : Lnd X pins e B sI t τ G k d) (sk : X.stack = X.env :: X.outer) (fm : X.env.frame = some X.env.locals) (tk : Takes X Wo) (w : Wo k d τ G) : wpAny (model X.prog X.w) X.A (handleBy (.ref e) X.env []) (SP X pins D) X.xe t := by
  refine wpAny_handleBy_nil ?_
  obtain ⟨_, _, _, _, _, T, _, _, g1, _, g2, g3, _⟩ := id L.fly
  unfold PySem.passOn
  refine wpAny_bind (wpAny_field g1 g2 g3 ?_)
  rw [if_neg (by simp)]
  have away : wpAny (model X.prog X.w) X.A (setFlight (.ref e) X.env.frame) (fun _ t2 => wpAny (model X.prog X.w) X.A (throw (.ref e) : Sem Flow) (SP X pins D) X.xe t2) X.xe t := by
    rw [fm]
    exact HandSPX.setFlight_upZ L.fly fun g held u => wpAny_throw (tk _ _ ⟨e, B, sI, pins, τ, G, k, d, rfl, L.inv, L.old, L.up.trans u, .inr (.inr (by rw [sk]; exact held)), L.new, L.os, L.gens, w⟩)
  first
    | exact wpAny_bind (wpAny_pure (wpAny_bind away))
    | exact wpAny_bind away
/-- the clauses asked one after the other -/
theorem hds_run (sk : X.stack = X.env :: X.outer) (fm : X.env.frame = some X.env.locals) (nd : X.N.Nodup) (tk : Takes X Wo) {hds : List ExceptHandler} {l : List (Value × Nat × SuF)} (hh : HdsN X hds l) (L : Lnd X pins e B sI t τ G k d) :
    wAsN X.K Wo D l k d τ G → wpAny (model X.prog X.w) X.A (handleBy (.ref e) X.env hds) (SP X pins D) X.xe t := by
  induction hh with
  | nil => exact fun w => L.none sk fm tk w
  | @cons c x n i ts first more p1 p2 hds2 l2 slot loc cls run rest ih =>
    rintro ⟨b, m, yes, no⟩
    have ok := L.inv.ok
    obtain ⟨oe, fs, g1, g2, g3, S⟩ := L.suite fm
    refine wpAny_handleBy_cons (codeAny_handlers_test ?_) (fun q => by cases q)
    have ty : PySem.W.Looks (model X.prog X.w) t.heap (typeOf (.ref e)) k := fun _ _ _ _ kp q => wpAny_typeOf_ref (kp _ _ g1) (by rw [g2.1]; exact q)
    have ask := PySem.W.exm_one (M := model X.prog X.w) L.here.kIn ty m
    have name : ∀ {Q E : Value → Shared → Prop}, Q c t → wpAny (model X.prog X.w) (X.A.mark (some (.ref e))) (eval (.Name x p1) X.env) Q E t := fun {Q E} q => by
      obtain ⟨q1, q2, q3⟩ := cls
      rcases q3 with q3 | ⟨q3, q4, q5⟩
      · exact ld_glob (X := X.suite e ((e, oe) :: (X.pn ++ pins))) S q1 q3 q q2
      · exact ld_blt (X := X.suite e ((e, oe) :: (X.pn ++ pins))) S q1 q3 q4 q q5 q2
    refine name (ask.here ?_)
    cases b with
    | false =>
      show wpAny _ X.A (handleBy (.ref e) X.env hds2) _ _ _
      exact ih (no rfl)
    | true =>
      refine codeAny_handlers_suite_as (HandSPX.lands_againZ L.fly fun g fl u => ?_)
      have Lb := L.later fl u
      obtain ⟨oe2, fs2, _, z2, z3, S2⟩ := Lb.suite fm
      refine store_ok (X := X.suite e ((e, oe2) :: (X.pn ++ pins))) (v := .ref e) S2 nd slot (.inl loc) rfl (fun t2 S3 => ?_) (.inr loc)
      refine wpAny_mono ((run e oe2 k d (X.pn ++ pins) z2 ⟨_, z3⟩).run [] t2 _ G _ S3 (yes rfl e L.new)) (fun f t3 sp => ?_) fun _ _ z => z.elim
      have over : ∀ {τ2 : L2.St} {G2 : Hp} {R : Shared → Prop}, Inv (X.suite e ((e, oe2) :: (X.pn ++ pins))) [] τ2 G2 t3 → (∀ t4, Inv X pins (τ2.set i none) G2 t4 → R t4) → wpAny (model X.prog X.w) X.A (do bindName X.env n .none; unbindBehindTheSuite X.env n p2) (fun _ t4 => R t4) X.xe t3 :=
        fun S4 r => gone_ok (S4.unsuite ok) nd slot loc r
      cases f with
      | ret u =>
        obtain ⟨v, τ2, G2, S4, rv, q⟩ := sp
        exact over S4 fun t4 J4 => ⟨v, _, _, J4, rv, q⟩
      | next =>
        obtain ⟨τ2, G2, S4, q⟩ := sp
        exact over S4 fun t4 J4 => ⟨_, _, J4, q⟩
      | brk =>
        obtain ⟨τ2, G2, S4, q⟩ := sp
        exact over S4 fun t4 J4 => ⟨_, _, J4, q⟩
      | cont =>
        obtain ⟨τ2, G2, S4, q⟩ := sp
        exact over S4 fun t4 J4 => ⟨_, _, J4, q⟩
end
section
variable {X : Cx} {body : List Stmt} {h1 : ExceptHandler} {hds : List ExceptHandler} {l : List (Value × Nat × SuF)} {pos : Pos} {tb : WX → TS} {Wo : WX}
theorem ps_try_asN (sk : X.stack = X.env :: X.outer) (fm : X.env.frame = some X.env.locals) (nd : X.N.Nodup) (tk : Takes X Wo)
    (hb : ∀ (W : WX) (pn : List (Addr × Obj)) (xe : Value → Shared → Prop), Takes (X.tr pn xe) W → PassesOwn (model X.prog X.w) X.A X.env xe → PSs (X.tr pn xe) body (tb W)) (hh : HdsN X (h1 :: hds) l) :
    PS X (.Try body (h1 :: hds) [] [] pos) (fun D τ G => tb (wAsN X.K Wo D l) D τ G) := by
  constructor
  intro pins t τ G D I q
  have ok := I.ok
  refine wpAny_Try_except (wpAny_mono ((hb (wAsN X.K Wo D l) (X.pn ++ pins) _ (fun u t2 x => ?_) PassesOwn.looking).run [] t τ G D (I.toTry _) q) (fun f t2 sp => ?_) fun _ _ z => z)
  · obtain ⟨e, B, sI, pins2, τ2, G2, k, d, rfl, J, old, up, sky, new, os, ag, w⟩ := x
    rw [show (X.tr (X.pn ++ pins) _).stack = X.env :: X.outer from sk] at sky
    exact Sky.land Zc.steady (by rw [ok.frames, sk]) fm sky fun g fl u => hds_run sk fm nd tk hh ⟨J.ofTry ok, old, up.trans u, new, os, ag, fl⟩ w
  · cases f with
    | next =>
      obtain ⟨τ2, G2, J, z⟩ := sp
      exact wpAny_execs_nil ⟨τ2, G2, J.ofTry ok, z⟩
    | brk =>
      obtain ⟨τ2, G2, J, z⟩ := sp
      exact ⟨τ2, G2, J.ofTry ok, z⟩
    | cont =>
      obtain ⟨τ2, G2, J, z⟩ := sp
      exact ⟨τ2, G2, J.ofTry ok, z⟩
    | ret u =>
      obtain ⟨v, τ2, G2, J, r, z⟩ := sp
      exact ⟨v, τ2, G2, J.ofTry ok, r, z⟩
end
/-! ### in the pure layer -/
abbrev ClP := Str × Nat × (Addr → Addr → TSp)
def tryXN (E : XP) (D : EndsP) : List ClP → XP
  | [] => E
  | z :: r => fun cc g ρ1 M1 => if cc = z.1 then ∀ a dd, z.2.2 a dd noX (tryD z.2.1 D) (ρ1.set z.2.1 (some (.fz (.exc a dd cc g)))) M1 else tryXN E D r cc g ρ1 M1
def inX (L : List Str) (E : XP) : XP := fun cc g ρ1 M1 => cc ∈ L ∧ E cc g ρ1 M1
def sTryN (L : List Str) (cl : List ClP) (tb : TSp) : TSp := fun E D ρ M => tb (inX L (tryXN E D cl)) D ρ M
inductive PHds (m : Bool) (X : Cx) (L : List Str) : List ExceptHandler → List ClP → Prop
  | nil : PHds m X L [] []
  | cons {c n : Str} {i : Nat} {C : Addr} {ts : Addr → Addr → TSp} {first : Stmt} {more : List Stmt} {p1 p2 : Pos} {hds : List ExceptHandler} {cl : List ClP} (hi : X.N[i]? = some n) (hln : X.env.kindOf n = some .local) (hg : Gl X c) (hmc : X.mg c = some (.ref C))
      (hm : ∀ cc ∈ L, ∀ CC, X.mg cc = some (.ref CC) → PySem.W.exmOne X.K (.ref CC) (.ref C) = some (decide (cc = c)))
      (hsu : ∀ (a dd : Addr) (oe : Obj) (pn : List (Addr × Obj)), Zc (.ref C) (some dd) oe → (∃ vs, oe.data = .fields vs) → PSsp noW m (X.suite a ((a, oe) :: pn)) (first :: more) (ts a dd)) (r : PHds m X L hds cl) (hd : (c == ("__debug__" : Str)) = false) :
      PHds m X L (.ExceptHandler (some (.Name c p1)) (some n) (first :: more) p2 :: hds) ((c, i, ts) :: cl)
def lsF (K : PySem.W.Frag) (mg : Str → Option Value) (m : Bool) (C : Addr) (ts : Addr → Addr → TSp) : SuF := fun a cls d => match d with
  | some dd => fun D σ H => cls = .ref C ∧ LS K mg noW m (ts a dd) D σ H
  | none => fun _ _ _ => False
section
variable {W : WX} {m : Bool} {X : Cx} {L : List Str} {hds : List ExceptHandler} {cl : List ClP}
theorem PHds.low (h : PHds m X L hds cl) : ∃ l, HdsN X hds l ∧ ∀ {B : Bse} {w : Wd} {Dp : EndsP} {D : Ends} {E0 : XP}, LDs X.K X.mg m B w Dp D → LXs X.K X.mg W B w E0 → ∀ cc g ρ' w' σ' cls dx, cc ∈ L → tryXN E0 Dp cl cc g ρ' w'.M → w.ke w' → Rl X.K X.mg B w' ρ' σ' → XRep X.K X.mg w' cc g cls dx → wAsN X.K W D l cls dx σ' w'.H := by
  induction h with
  | nil => exact ⟨[], .nil, fun d x cc g ρ' w' σ' cls dx _ q k' R' xr => x cc g ρ' _ q w' σ' cls dx rfl k' R' xr⟩
  | @cons c n i C ts first more p1 p2 hds2 cl2 hi hln hg hmc hm hsu r hd ih =>
    obtain ⟨l, h1, h2⟩ := ih
    refine ⟨(.ref C, i, lsF X.K X.mg m C ts) :: l, .cons hi hln ⟨hg, hd, .inl hmc⟩ (fun a oe cls d pn hz hf => ?_) h1, fun {B w Dp D E0} d x cc g ρ' w' σ' cls dx hL q k' R' xr => ?_⟩
    · cases d with
      | none => exact pss_false
      | some dd =>
        by_cases hcl : cls = .ref C
        · subst hcl
          exact PSs.imp (hsu a dd oe pn hz hf) fun D σ H q => q.2
        · exact PSs.imp pss_false fun D σ H q => hcl q.1
    · obtain ⟨CC, hCC, rfl, p, fs, v, rfl, hp, hfs, rv⟩ := id xr
      have q : if cc = c then ∀ a dd, ts a dd noX (tryD i Dp) (ρ'.set i (some (.fz (.exc a dd cc g)))) w'.M else tryXN E0 Dp cl2 cc g ρ' w'.M := q
      refine ⟨decide (cc = c), hm cc hL CC hCC, fun hb a ha => ?_, fun hb => ?_⟩
      · have hcc := of_decide_eq_true hb
        subst hcc
        rw [hmc] at hCC
        cases hCC
        rw [if_pos rfl] at q
        refine ⟨rfl, w', rfl, B, _, _, noX, R'.setF (.exc hp hfs rv), q a p, ⟨fun ρ2 M2 q2 w2 σ2 e2 k2 R2 => ?_, fun ρ2 M2 q2 w2 σ2 e2 k2 R2 => ?_, fun ρ2 M2 q2 w2 σ2 e2 k2 R2 => ?_, fun d2 ρ2 M2 q2 w2 σ2 v2 e2 k2 R2 r2 => ?_⟩, fun _ _ _ _ z => z.elim⟩
        · exact d.nx _ M2 q2 w2 _ e2 (k'.trans k2) (R2.like (vs := [i]) (by rw [List.length_set]) fun j hj => List.getElem?_set_ne (fun z : i = j => hj (by rw [z]; exact List.mem_singleton.mpr rfl)))
        · exact d.bk _ M2 q2 w2 _ e2 (k'.trans k2) (R2.like (vs := [i]) (by rw [List.length_set]) fun j hj => List.getElem?_set_ne (fun z : i = j => hj (by rw [z]; exact List.mem_singleton.mpr rfl)))
        · exact d.ct _ M2 q2 w2 _ e2 (k'.trans k2) (R2.like (vs := [i]) (by rw [List.length_set]) fun j hj => List.getElem?_set_ne (fun z : i = j => hj (by rw [z]; exact List.mem_singleton.mpr rfl)))
        · exact d.rt d2 ρ2 M2 q2 w2 σ2 v2 e2 (k'.trans k2) R2 r2
      · have hne := of_decide_eq_false hb
        rw [if_neg hne] at q
        exact h2 d x cc g ρ' w' σ' _ _ hL q k' R' xr
theorem s_tryN {h1 : ExceptHandler} {body : List Stmt} {tb : TSp} {pos : Pos} (hs : X.stack = X.env :: X.outer) (hf : X.env.frame = some X.env.locals) (hN : X.N.Nodup) (tk : Takes X W)
    (hb : ∀ (W' : WX) (pn : List (Addr × Obj)) (xe : Value → Shared → Prop), Takes (X.tr pn xe) W' → PassesOwn (model X.prog X.w) X.A X.env xe → PSsp W' m (X.tr pn xe) body tb) (hh : PHds m X L (h1 :: hds) cl) :
    PSp W m X (.Try body (h1 :: hds) [] [] pos) (sTryN L cl tb) := by
  obtain ⟨l, g1, g2⟩ := hh.low (W := W)
  refine PS.imp (ps_try_asN (tb := fun W' => LS X.K X.mg W' m tb) (Wo := W) hs hf hN tk hb g1) fun D σ H ⟨w, e, B, ρ, Dp, E0, R, h, d, x⟩ => ?_
  refine ⟨w, e, B, ρ, Dp, _, R, h, d, fun cc g ρ' M' ⟨hL, q⟩ w' σ' cls dx e' k' R' xr => ?_⟩
  subst e'
  exact g2 d x cc g ρ' w' σ' cls dx hL q k' R' xr
end
section
variable {ρ : PSt} {M : PHp} {E : XP} {D' : EndsP} {ts : TSp} {L : List Str} {cl : List ClP} {c cc : Str} {k : Nat} {tsx : Addr → Addr → TSp} {d : D}
theorem u_tryN : sTryN L cl ts E D' ρ M = ts (inX L (tryXN E D' cl)) D' ρ M := rfl
theorem u_inX : inX L E cc d ρ M = (cc ∈ L ∧ E cc d ρ M) := rfl
theorem u_tryN0 : tryXN E D' [] cc d ρ M = E cc d ρ M := rfl
theorem u_tryN1 : tryXN E D' ((c, k, tsx) :: cl) cc d ρ M = if cc = c then ∀ a dd, tsx a dd noX (tryD k D') (ρ.set k (some (.fz (.exc a dd cc d)))) M else tryXN E D' cl cc d ρ M := rfl
end
end CM

/-! own __getitem__; a class held by a local name, made -/
namespace CM
open PySem PySem.Spec PyProof.Rows L2
/-- the class has a def of its own for o[i] -/
structure GetI (K : PySem.W.Frag) (C f : Addr) : Prop where
  own : PySem.W.findIn K (.ref C) "__getitem__" = some (some (.ref f))
  isf : PySem.W.fnIn K f = true
  fun_ : PySem.W.isFn K (.ref f) = true
abbrev XS := L2.St → XK
def tSubS (C : Addr) (sp : Sp) (E : XS) (to ti : TE) : TE := fun σ H Q => to σ H fun x H1 => ti σ H1 fun y H2 => ∃ a dx fs, x = .ref a ∧ H2 a = some (.ins C dx fs) ∧ sp [.ref a, y] H2 Q (E σ)
def tMthS (C : Addr) (m : Str) (sp : Sp) (E : XS) (to : TE) (t : TA) : TE := fun σ H Q => to σ H fun x H1 => ∃ a dx fs, x = .ref a ∧ H1 a = some (.ins C dx fs) ∧ fs.lookup m = none ∧ t σ H1 fun vs H2 => sp (x :: vs) H2 Q (E σ)
def tClsS (C : Addr) (sp : Sp) (E : XS) (to : TE) (t : TA) : TE := fun σ H Q => to σ H fun x H1 => x = .ref C ∧ t σ H1 fun vs H2 => sp (.ref C :: vs) H2 Q (E σ)
def tMkS (C : Addr) (sp : Sp) (E : XS) (t : TA) : TE := fun σ H Q => t σ H fun vs H1 => ∀ x dx, H1 x = none → H1 dx = none → dx ≠ x → sp (.ref x :: vs) (upd (upd H1 dx (.own x)) x (.ins C dx [])) (fun v H2 => v = .non ∧ Q (.ref x) H2) (E σ)
def tMkL (C : Addr) (sp : Sp) (E : XS) (tf : TE) (t : TA) : TE := fun σ H Q => tf σ H fun v H1 => v = .ref C ∧ tMkS C sp E t σ H1 Q
/-- what a def of a class is, as it stands behind the top -/
structure FnM (P : Program) (w : World) (K : PySem.W.Frag) (mg : Str → Option Value) (base : Heap) (k : Nat) (f : Addr) (sp : Sp) : Prop where
  ex : ∃ fd ps, FnOk P w K mg base (L2.CX P w) k f fd ps sp ∧ Binds K fd ps []
section
variable {X : Cx} {k : Nat} {C f p : Addr} {mc : Value} {sp : Sp} {E : XS} {o i fe e : Expr} {es : List Expr} {x m : Str} {pos apos np : Pos} {to ti tf : TE} {t : TA} {pl : Sem Bool}
theorem FnM.call {pins : List (Addr × Obj)} {σ : L2.St} {H : Hp} {s : Shared} {Q : VK} {us : List Value} {vs : List V} (F : FnM X.prog X.w X.K X.mg X.base k f sp) (hr : Room k X.A) (hx : PassesAt (L2.CX X.prog X.w) X σ (E σ)) (I : Inv X pins σ H s) (r : Vals vs us) (h : sp vs H Q (E σ)) :
    wpAny (model X.prog X.w) X.A (call (.ref f) us) (EP X pins σ Q) X.xe s := by
  obtain ⟨fd, ps, G, b⟩ := F.ex
  exact run_fnSD G hr b .nil hx I r (by rw [List.append_nil]; exact h)
theorem FnM.code {pins : List (Addr × Obj)} {σ : L2.St} {H : Hp} {s : Shared} {Q : VK} {us : List Value} {vs : List V} (F : FnM X.prog X.w X.K X.mg X.base k f sp) (hr : Room k X.A) (hx : PassesAt (L2.CX X.prog X.w) X σ (E σ)) (I : Inv X pins σ H s) (r : Vals vs us) (h : sp vs H Q (E σ)) :
    codeAny (model X.prog X.w) X.A (.call (.ref f) ⟨us, []⟩) (fun b s' => match b with | .ok (.ret v) => EP X pins σ Q v s' | .ok _ => False | .error er => X.xe er s') s := by
  obtain ⟨fd, ps, G, b⟩ := F.ex
  have n0 : (us ++ []).length = ps.length := by rw [List.append_nil, ← r.length]; exact G.len _ _ _ _ h
  refine codeAny_mono (G.run X.A X.stack s H ⟨us, []⟩ (us ++ []) vs Q (E σ) hr I.env0 (b s us I.kIn n0) (by rw [List.append_nil]; exact r) h) fun fl s' q => ?_
  rcases fl with er | fl
  · exact hx pins H s er s' I q
  · cases fl with
    | ret u => exact I.after q
    | next => exact q.elim
    | brk => exact q.elim
    | cont => exact q.elim
theorem pe_subS (ho : PE X o to) (hi : PE X i ti) (g : GetI X.K C f) (F : FnM X.prog X.w X.K X.mg X.base k f sp) (hr : Room (k + 1) X.A) (hx : ∀ σ, PassesAt (L2.CX X.prog X.w) X σ (E σ))
    (hsl : ∀ ov iv, subscripted i true ov iv = runValue (.builtin "lifetime.subscript" ⟨[ov, iv], []⟩)) : PE X (.Subscript o i pos) (tSubS C sp E to ti) := by
  refine ⟨fun pins s σ H Q I h => ?_⟩
  refine Subscript_ (thn (ho.run pins s σ H _ I h) fun u s1 ⟨x, H1, I1, rx, q1⟩ => thn (hi.run pins s1 σ H1 _ I1 q1) fun iv s2 ⟨y, H2, I2, ry, a, dx, fs, ex, ea, q2⟩ => ?_)
  subst ex
  obtain rfl : u = Value.ref a := rx
  obtain ⟨mA, O, _⟩ := ins_get I2.hok ea
  obtain ⟨od, J, _⟩ := O.look
  obtain ⟨m, hn, _⟩ := id I2.loc
  obtain ⟨fd, ps, G, hb⟩ := F.ex
  have hl : ([Value.ref a, iv] ++ []).length = ps.length := by
    rw [← G.len _ _ _ _ q2]
    rfl
  refine PySem.W.sub_K (h₀ := X.base) (L := X.env.locals) (m := m) ⟨hn, I2.bk, Nat.le_trans I2.ok.bsz I2.ok.above⟩ I2.ok.mod.kin J g.own g.isf g.fun_ ?_ (hsl _ _)
  refine wpAny_call (codeAny_mono (G.run X.A.in1 X.stack s2 H2 ⟨[.ref a, iv], []⟩ [.ref a, iv] [.ref a, y] Q (E σ) hr.in1 I2.env0.in1 (hb s2 [.ref a, iv] I2.kIn hl) (.cons rfl (.cons ry .nil)) q2) fun r s' hq => ?_)
  cases r with
  | error er => exact hx σ pins H2 s2 er s' I2 hq
  | ok fl =>
    cases fl with
    | ret u => exact I2.after hq
    | next => exact hq.elim
    | brk => exact hq.elim
    | cont => exact hq.elim
theorem pe_mthS (ho : PE X o to) (c : Cls X.K C) (hm : Meth X.K C m f) (F : FnM X.prog X.w X.K X.mg X.base k f sp) (hr : Room k X.A) (hx : ∀ σ, PassesAt (L2.CX X.prog X.w) X σ (E σ)) (ha : PA X (e :: es) t)
    (hst : starEach (e :: es) X.env = (false, eval e X.env) :: starEach es X.env := by rfl) (hpl : (backTo pos (starEach es X.env)).any (·.1) = false := by rfl)
    (ht : eval (.Call (.Attribute o m apos) (e :: es) [] pos) X.env = (do let ov ← eval o X.env; standAt apos.atName; let (f, first) ← holding [ov] (getMethod ov m pl); callWith pos f first (backTo pos (starEach (e :: es) X.env)) (backToKw pos (keywordEach [] X.env))) := by rfl) :
    PE X (.Call (.Attribute o m apos) (e :: es) [] pos) (tMthS C m sp E to t) := by
  constructor
  intro pins s σ H Q I h
  refine PySem.W.methodCall_KW (pl := pl) (thn (ho.run pins s σ H _ I h) fun u s1 ⟨x, H1, I1, rx, a, dx, fs, ex, ea, l, q⟩ => ?_) ht
  subst ex
  cases (show u = Value.ref a from rx)
  refine getmeth_ok I1 ea c hm l (PySem.W.callWith_K (first := [.ref a]) (h₀ := X.base) I.ok.mod.kin hm.kp (thn (ha.run pos pins s1 σ H1 _ I1 q) fun us s2 ⟨vs, H2, I2, r, q2⟩ => ⟨I2.kIn, ?_⟩) hst hpl)
  exact F.call hr (hx σ) I2 (us := .ref a :: us) (vs := .ref a :: vs) (.cons rfl r) q2
theorem pe_mth0S (ho : PE X o to) (c : Cls X.K C) (hm : Meth X.K C m f) (F : FnM X.prog X.w X.K X.mg X.base k f sp) (hr : Room k X.A) (hx : ∀ σ, PassesAt (L2.CX X.prog X.w) X σ (E σ))
    (ht : eval (.Call (.Attribute o m apos) [] [] pos) X.env = (do let ov ← eval o X.env; standAt apos.atName; let (f, first) ← holding [ov] (getMethod ov m pl); callWith pos f first (backTo pos (starEach [] X.env)) (backToKw pos (keywordEach [] X.env))) := by rfl) :
    PE X (.Call (.Attribute o m apos) [] [] pos) (tMthS C m sp E to tNil) := by
  constructor
  intro pins s σ H Q I h
  refine PySem.W.methodCall_KW (pl := pl) (thn (ho.run pins s σ H _ I h) fun u s1 ⟨x, H1, I1, rx, a, dx, fs, ex, ea, l, q⟩ => ?_) ht
  subst ex
  cases (show u = Value.ref a from rx)
  exact getmeth_ok I1 ea c hm l (PySem.W.callWith_K0 (first := [.ref a]) I1.kIn hm.kp (F.call hr (hx σ) I1 (us := [.ref a]) (vs := [.ref a]) (.cons rfl .nil) q))
theorem pe_clsS (ho : PE X o to) (r : ClX.CRead X.K C mc) (c : ClX.CMet X.K C mc m p f) (F : FnM X.prog X.w X.K X.mg X.base k f sp) (hr : Room k X.A) (hx : ∀ σ, PassesAt (L2.CX X.prog X.w) X σ (E σ)) (ha : PA X (e :: es) t)
    (hst : starEach (e :: es) X.env = (false, eval e X.env) :: starEach es X.env := by rfl) (hpl : (backTo pos (starEach es X.env)).any (·.1) = false := by rfl)
    (ht : eval (.Call (.Attribute o m apos) (e :: es) [] pos) X.env = (do let ov ← eval o X.env; standAt apos.atName; let (f, first) ← holding [ov] (getMethod ov m pl); callWith pos f first (backTo pos (starEach (e :: es) X.env)) (backToKw pos (keywordEach [] X.env))) := by rfl) :
    PE X (.Call (.Attribute o m apos) (e :: es) [] pos) (tClsS C sp E to t) := by
  constructor
  intro pins s σ H Q I h
  refine PySem.W.methodCall_KW (pl := pl) (thn (ho.run pins s σ H _ I h) fun u s1 ⟨x, H1, I1, rx, ex, q⟩ => ?_) ht
  subst ex
  cases (show u = Value.ref C from rx)
  refine ClX.getmethcm_ok I1 r c fun s2 I2 => ClX.callwith_cm I2 (ClX.base_none I1 (Nat.le_refl _)) c.fi (thn (ha.run pos _ s2 σ H1 _ I2 q) fun us s3 ⟨vs, H2, I3, rv, q2⟩ => ⟨⟨ClX.pin_at I3, I3.kIn⟩, ?_⟩) hst hpl
  exact thn (wpAny_call (PySem.W.method_call (ClX.pin_at I3) (F.code hr (hx σ) I3 (us := .ref C :: us) (vs := .ref C :: vs) (.cons rfl rv) q2))) fun _ _ y => ClX.unpinE y
/-- the class at C called -/
theorem mk_runS {pins : List (Addr × Obj)} {σ : L2.St} {H : Hp} {s : Shared} {Q : VK} {us : List Value} {vs : List V} (M : Mk X.K C f) (F : FnM X.prog X.w X.K X.mg X.base k f sp) (hr : Room (k + 1) X.A) (hx : PassesAt (L2.CX X.prog X.w) X σ (E σ)) (I : Inv X pins σ H s) (r : Vals vs us)
    (h : ∀ x dx, H x = none → H dx = none → dx ≠ x → sp (.ref x :: vs) (upd (upd H dx (.own x)) x (.ins C dx [])) (fun v H2 => v = .non ∧ Q (.ref x) H2) (E σ)) : wpAny (model X.prog X.w) X.A (call (.ref C) us) (EP X pins σ Q) X.xe s := by
  obtain ⟨fd, ps, G, b⟩ := F.ex
  have big := Nat.le_refl s.heap.objs.size
  have h0 := h (s.heap.objs.size + 1) s.heap.objs.size (I.hok.fresh (Nat.le_succ_of_le big)) (I.hok.fresh big) (Nat.ne_of_lt (Nat.lt_succ_self _))
  have J := Inv.made (C := C) I
  have r0 : Vals (V.ref (s.heap.objs.size + 1) :: vs) (Value.ref (s.heap.objs.size + 1) :: us) := .cons rfl r
  have n0 : ((Value.ref (s.heap.objs.size + 1) :: us) ++ []).length = ps.length := by rw [List.append_nil, ← r0.length]; exact G.len _ _ _ _ h0
  have go := G.run _ X.stack _ _ ⟨Value.ref (s.heap.objs.size + 1) :: us, []⟩ _ _ _ (E σ) (hr.make C us []) (J.env0.make C us []) (b _ _ J.kIn n0) (by rw [List.append_nil]; exact r0) h0
  refine wpAny_call (make_map (f := f) I.kIn M.makes M.init (beq_iff_eq.mp M.fn) (codeAny_mono go fun fl s2 q => ?_))
  rcases fl with er | fl
  · exact hx pins _ _ er s2 J q
  · cases fl with
    | ret u =>
      obtain ⟨v, G2, J2, rv, e2, q2⟩ := J.after q
      subst e2
      exact ⟨rv, .ref (s.heap.objs.size + 1), G2, J2, rfl, q2⟩
    | next => exact q.elim
    | brk => exact q.elim
    | cont => exact q.elim
theorem pe_mkS (M : Mk X.K C f) (F : FnM X.prog X.w X.K X.mg X.base k f sp) (hr : Room (k + 1) X.A) (hg : Gl X x) (hm : X.mg x = some (.ref C)) (hx : ∀ σ, PassesAt (L2.CX X.prog X.w) X σ (E σ)) (ha : PA X (e :: es) t) (hdb : (x == ("__debug__" : Str)) = false := by decide)
    (he : starEach (e :: es) X.env = (false, eval e X.env) :: starEach es X.env := by rfl) (hpl : (backTo pos (starEach es X.env)).any (·.1) = false := by rfl) : PE X (.Call (.Name x np) (e :: es) [] pos) (tMkS C sp E t) := by
  constructor
  intro pins s σ H Q I h
  exact wpAny_Call_Name_kw (ld_glob I hg hm (PySem.W.callWith_K (h₀ := X.base) I.ok.mod.kin M.kp (thn (ha.run pos pins s σ H _ I h) fun us s1 ⟨vs, H1, I1, r, q⟩ => ⟨I1.kIn, mk_runS M F hr (hx σ) I1 r q⟩) he hpl) hdb)
theorem pe_mkL (M : Mk X.K C f) (F : FnM X.prog X.w X.K X.mg X.base k f sp) (hr : Room (k + 1) X.A) (hx : ∀ σ, PassesAt (L2.CX X.prog X.w) X σ (E σ)) (hf : PE X fe tf) (ha : PA X (e :: es) t)
    (hc : eval (.Call fe (e :: es) [] pos) X.env = (do callWith pos (← eval fe X.env) [] (backTo pos (starEach (e :: es) X.env)) (backToKw pos (keywordEach [] X.env))) := by rfl)
    (he : starEach (e :: es) X.env = (false, eval e X.env) :: starEach es X.env := by rfl) (hpl : (backTo pos (starEach es X.env)).any (·.1) = false := by rfl) : PE X (.Call fe (e :: es) [] pos) (tMkL C sp E tf t) := by
  refine ⟨fun pins s σ H Q I h => ?_⟩
  refine Call_ (thn (hf.run pins s σ H _ I h) fun u s1 ⟨v, H1, I1, r1, q0, q1⟩ => ?_) hc
  subst q0
  cases (show u = Value.ref C from r1)
  exact PySem.W.callWith_K (h₀ := X.base) I.ok.mod.kin M.kp (thn (ha.run pos pins s1 σ H1 _ I1 q1) fun us s2 ⟨vs, H2, I2, r, q⟩ => ⟨I2.kIn, mk_runS M F hr (hx σ) I2 r q⟩) he hpl
end
end CM

/-! the pure layer: objects of own classes -/
namespace CM
open PySem PySem.Spec PyProof.Rows L2
def delM (M : PHp) (a : Addr) : PHp := fun b => if b = a then none else M b
theorem delM_ne {M : PHp} {a b : Addr} (h : b ≠ a) : delM M a b = M b := by unfold delM; rw [if_neg h]
theorem delM_same {M : PHp} {a : Addr} : delM M a a = none := by unfold delM; rw [if_pos rfl]
theorem delM_upd {M : PHp} {a : Addr} {d : D} (h : M a = none) : delM (updM M a d) a = M := by
  funext b
  unfold delM updM
  split
  · rename_i e
    rw [e, h]
  · rfl
section
variable {K : PySem.W.Frag} {mg : Str → Option Value} {w w1 w2 : Wd} {x dx Ca : Addr} {C : Str}
/-- a new instance and its dict, as a cell -/
def Wd.mk1 (w : Wd) (C : Str) (Ca x dx : Addr) : Wd := ⟨w.Z, updM w.M x (.obj C []), upd (upd w.H dx (.own x)) x (.ins Ca dx [])⟩
theorem mk1_at (hx : w.H x = none) (hdx : w.H dx = none) {a : Addr} {o : HO} (h : w.H a = some o) : upd (upd w.H dx (.own x)) x (.ins Ca dx []) a = some o := by
  rw [upd_ne (fun z => by rw [z, hx] at h; cases h), upd_ne (fun z => by rw [z, hdx] at h; cases h)]
  exact h
theorem Wd.Ok.mNone (ok : w.Ok K mg) (hx : w.H x = none) : w.M x = none := by
  cases e : w.M x with
  | none => rfl
  | some d =>
    obtain ⟨o, ho, _⟩ := (ok.cells x d e).2.some
    rw [hx] at ho
    cases ho
theorem mk1_le (hx : w.H x = none) (hdx : w.H dx = none) : Le w (w.mk1 C Ca x dx) where
  sub := fun _ h => h
  frame := fun a o h _ => mk1_at hx hdx h
  there := fun a h => by
    cases e : w.H a with
    | none => exact absurd e h
    | some o => exact fun z => by rw [show (w.mk1 C Ca x dx).H a = some o from mk1_at hx hdx e] at z; cases z
  newc := fun a d h => by
    have h : updM w.M x (.obj C []) a = some d := h
    by_cases ha : a = x
    · rw [ha]
      exact .inr hx
    · rw [updM_ne ha] at h
      exact .inl (by rw [h]; exact fun z => by cases z)
  newz := fun _ h => .inl h
theorem mk1_ok (ok : w.Ok K mg) (hC : mg C = some (.ref Ca)) (hx : w.H x = none) (hdx : w.H dx = none) (ne : dx ≠ x) : (w.mk1 C Ca x dx).Ok K mg where
  cells := fun a d h => by
    have h : updM w.M x (.obj C []) a = some d := h
    by_cases ha : a = x
    · subst ha
      rw [updM_same] at h
      cases h
      exact ⟨fun z => ok.zin a z hx, Ca, dx, [], hC, upd_same, rfl, .nil⟩
    · rw [updM_ne ha] at h
      obtain ⟨h1, h2⟩ := ok.cells a d h
      obtain ⟨o, ho, _⟩ := h2.some
      exact ⟨h1, h2.ke ((mk1_le (C := C) (Ca := Ca) hx hdx).ke ok) ((mk1_at hx hdx ho).trans ho.symm)⟩
  zin := fun a z => (mk1_le (C := C) (Ca := Ca) hx hdx).there a (ok.zin a z)
  ztup := fun a vs h => by
    have h : upd (upd w.H dx (.own x)) x (.ins Ca dx []) a = some (.tup vs) := h
    have ha : a ≠ x := fun z => by rw [z, upd_same] at h; cases h
    rw [upd_ne ha] at h
    have hb : a ≠ dx := fun z => by rw [z, upd_same] at h; cases h
    rw [upd_ne hb] at h
    show updM w.M x (.obj C []) a = none
    rw [updM_ne ha]
    exact ok.ztup a vs h
/-- a cell that was new is none of the cells any more -/
def Wd.del (w : Wd) (x : Addr) : Wd := { w with M := delM w.M x }
theorem del_ok (ok : w.Ok K mg) : (w.del x).Ok K mg where
  cells := fun a d h => by
    have h : delM w.M x a = some d := h
    by_cases ha : a = x
    · rw [ha, delM_same] at h
      cases h
    · rw [delM_ne ha] at h
      exact ok.cells a d h
  zin := ok.zin
  ztup := fun a vs h => by
    show delM w.M x a = none
    by_cases ha : a = x
    · rw [ha, delM_same]
    · rw [delM_ne ha]
      exact ok.ztup a vs h
theorem del_le (le : Le w1 w) : Le w1 (w.del x) where
  sub := le.sub
  frame := le.frame
  there := le.there
  newc := fun a d h => by
    have h : delM w.M x a = some d := h
    by_cases ha : a = x
    · rw [ha, delM_same] at h
      cases h
    · rw [delM_ne ha] at h
      exact le.newc a d h
  newz := le.newz
end
/-! ### C(..) -/
def pMk (C : Str) (n : Nat) (sp : SpP) (ta : TAp) : TEp := fun ρ M E Q => ta ρ M E fun ds ρ' M' => ds.length + 1 = n ∧ ∀ x, M' x = none → sp (.ref x :: ds) (updM M' x (.obj C [])) (fun c g M2 => E c g ρ' (delM M2 x)) fun d M2 => d = .non ∧ ∃ c, M2 x = some c ∧ Q c ρ' (delM M2 x)
section
variable {K : PySem.W.Frag} {mg : Str → Option Value} {W : WX} {σ : L2.St} {H : Hp} {Q : VK} {n : Nat} {sp : SpP} {ta : TAp} {C : Str} {Ca : Addr} {m : Bool}
theorem mk_lift (hC : mg C = some (.ref Ca)) (h : LE K mg W (pMk C n sp ta) σ H Q) : tMkS Ca (LSp K mg m n sp) (WE W) (LA K mg W ta) σ H Q := by
  obtain ⟨w, e, B, ρ, Q0, E0, R, h, kk, xx⟩ := h
  refine ⟨w, e, B, ρ, _, E0, R, h, fun ds ρ1 M1 ⟨hl, q⟩ w1 vs e1 k1 R1 r1 => ?_, xx⟩
  subst e1
  intro x dx hx hdx ne
  have q := q x (R1.ok.mNone hx)
  have le1 : Le w1 (w1.mk1 C Ca x dx) := mk1_le hx hdx
  have ok1 := mk1_ok R1.ok hC hx hdx ne
  refine ⟨by rw [List.length_cons, r1.len]; exact hl, w1.mk1 C Ca x dx, rfl, _, _, _, ok1, .cons (.ref x) (r1.ke (le1.ke R1.ok)), q, fun d M' ⟨ed, c, hc, q2⟩ w' v e' ok' le' rs => ?_, fun c g M' q2 w' cls dx2 e' ok' le' xr => ?_⟩
  · subst ed e'
    have hv : v = .non := by
      unfold ResC at rs
      rw [if_neg (by cases m <;> simp [isCell])] at rs
      cases rs
      rfl
    refine ⟨hv, ?_⟩
    have le2 : Le w1 (w'.del x) := del_le (le1.trans le')
    obtain ⟨nz, ca⟩ := ok'.cells x c hc
    obtain ⟨u, hu, _⟩ := ca.some
    have ok3 := Wd.frz_ok (p := x) (del_ok (x := x) ok') delM_same (by show w'.H x ≠ none; rw [hu]; exact fun z => by cases z)
    have le3 := Wd.frz_le (p := x) le2 hx
    exact kk c ρ1 _ q2 ((w'.del x).frz x) (.ref x) rfl (k1.trans (le3.ke R1.ok)) (R1.call le3 ok3) ((ca.ke ((w'.del x).frz_ke x) rfl).rep (.inr rfl))
  · subst e'
    have le2 : Le w1 (w'.del x) := del_le (le1.trans le')
    exact xx c g ρ1 _ q2 (w'.del x) cls dx2 rfl (k1.trans (le2.ke R1.ok)) (R1.call le2 (del_ok ok')) xr
end
/-! ### the defs of a class -/
/-- a def of a class, as it stands behind the top; Kd: how the class holds it -/
structure MDf (K : PySem.W.Frag) (name qual : Str) (st : Stmt) (ps : List Str) (Kd : Addr → Prop) : Prop where
  ex : ∃ f fd, Kd f ∧ Fun K name qual st f fd ∧ Binds K fd ps []
structure MtF (P : Program) (w : World) (K : PySem.W.Frag) (mg : Str → Option Value) (base : Heap) (Kd : Addr → Prop) (k n : Nat) (m : Bool) (sp : SpP) : Prop where
  ex : ∃ f, Kd f ∧ FnM P w K mg base k f (LSp K mg m n sp)
def KdM (K : PySem.W.Frag) (mg : Str → Option Value) (C m : Str) : Addr → Prop := fun f => ∃ Ca, mg C = some (.ref Ca) ∧ Cls K Ca ∧ Meth K Ca m f
def KdI (K : PySem.W.Frag) (mg : Str → Option Value) (C : Str) : Addr → Prop := fun f => ∃ Ca, mg C = some (.ref Ca) ∧ Mk K Ca f
def KdP (K : PySem.W.Frag) (mg : Str → Option Value) (C m : Str) : Addr → Prop := fun g => ∃ Ca p, mg C = some (.ref Ca) ∧ Cls K Ca ∧ PropOf K Ca m p g
def KdC (K : PySem.W.Frag) (mg : Str → Option Value) (C m : Str) : Addr → Prop := fun g => ∃ Ca mc p, mg C = some (.ref Ca) ∧ ClX.CRead K Ca mc ∧ ClX.CMet K Ca mc m p g
def KdG (K : PySem.W.Frag) (mg : Str → Option Value) (C : Str) : Addr → Prop := fun f => ∃ Ca, mg C = some (.ref Ca) ∧ GetI K Ca f
section
variable {P : Program} {w : World} {K : PySem.W.Frag} {mg : Str → Option Value} {base : Heap}
theorem MDf.ok {name qual : Str} {st : Stmt} {N ps : List Str} {Kd : Addr → Prop} {k : Nat} {m : Bool} {sp : SpP} (Dd : MDf K name qual st ps Kd) (S : FnScope N ps (defScope st))
    (hbody : ∀ (f : Addr) (cdv : Value) (A : Around) (outer : List Env) (s : Shared) (H : Hp) (E : XK), Room k (A.deeper (envOfC qual (defScope st) s.heap.objs.size f cdv)) → Takes (cxOf (L2.CX P w) P w K mg base N qual (defScope st) f cdv A outer s H E) (fun cls d _ H => E cls d H) →
      PassesOwn (model P w) (cxOf (L2.CX P w) P w K mg base N qual (defScope st) f cdv A outer s H E).A (cxOf (L2.CX P w) P w K mg base N qual (defScope st) f cdv A outer s H E).env (cxOf (L2.CX P w) P w K mg base N qual (defScope st) f cdv A outer s H E).xe →
      ∃ t, PSsp (fun cls d _ H => E cls d H) m (cxOf (L2.CX P w) P w K mg base N qual (defScope st) f cdv A outer s H E) (defBody st) t ∧ ∀ ds M (E0 : XC) (Q0 : D → PHp → Prop), ds.length = ps.length → sp ds M E0 Q0 → t (fnX E0) (endsK Q0) (startP N ds) M) : MtF P w K mg base Kd (k + 1) ps.length m sp := by
  obtain ⟨f, fd, h1, F, b⟩ := Dd.ex
  refine ⟨f, h1, fd, ps, F.okX S (fun vs H Q E h => h.1) (fun cdv A outer s H vs Q E hr h => ?_), b⟩
  obtain ⟨t, ht, hq⟩ := hbody f cdv A outer s H E hr (takes_of rfl rfl rfl rfl) (passes_of rfl)
  exact ⟨_, ht, ls_start h hq⟩
end
/-! ### the rules -/
theorem names_lookup {α β : Type} : ∀ {fs : List (Str × α)} {gs : List (Str × β)} {m : Str}, fs.map (·.1) = gs.map (·.1) → gs.lookup m = none → fs.lookup m = none
  | [], _, _, _, _ => rfl
  | (a, u) :: r, [], _, h, _ => by cases h
  | (a, u) :: r, (b, v) :: t, m, h, e => by
    have h1 : a = b := (List.cons.inj h).1
    have h2 : r.map (·.1) = t.map (·.1) := (List.cons.inj h).2
    subst h1
    rw [List.lookup_cons] at e ⊢
    split at e
    · cases e
    · exact names_lookup h2 e
theorem reps_lookup {K : PySem.W.Frag} {mg : Str → Option Value} {Z : Addr → Prop} {H : Hp} : ∀ {fs : List (Str × V)} {gs : List (Str × D)} {m : Str} {d : D}, fs.map (·.1) = gs.map (·.1) → Reps K mg Z H (fs.map (·.2)) (gs.map (·.2)) → gs.lookup m = some d → ∃ v, fs.lookup m = some v ∧ Rep K mg Z H v d
  | [], [], _, _, _, _, h => by cases h
  | [], _ :: _, _, _, h, _, _ => by cases h
  | _ :: _, [], _, _, h, _, _ => by cases h
  | (a, u) :: r, (b, v) :: t, m, d, h, rr, e => by
    have h1 : a = b := (List.cons.inj h).1
    have h2 : r.map (·.1) = t.map (·.1) := (List.cons.inj h).2
    subst h1
    cases rr with
    | cons r1 r2 =>
      rw [List.lookup_cons] at e ⊢
      split at e
      · cases e
        exact ⟨u, rfl, r1⟩
      · exact reps_lookup h2 r2 e
def pGf (x : Str) : TEp := pRet (.fn x)
def pMth (C m : Str) (n : Nat) (sp : SpP) (t : TEp) (ta : TAp) : TEp := fun ρ M E Q => t ρ M E fun x ρ1 M1 => (∃ fs, cn M1 x = .obj C fs ∧ fs.lookup m = none) ∧ ta ρ1 M1 E fun ds ρ2 M2 => ds.length + 1 = n ∧ sp (x :: ds) M2 (kXC E ρ2) (kQC Q ρ2)
def pPrp (C : Str) (sp : SpP) (t : TEp) : TEp := fun ρ M E Q => t ρ M E fun x ρ1 M1 => (∃ fs, cn M1 x = .obj C fs) ∧ sp [x] M1 (fun _ _ _ => False) (kQC Q ρ1)
def pCls (C : Str) (n : Nat) (sp : SpP) (ta : TAp) : TEp := fun ρ M E Q => ta ρ M E fun ds ρ2 M2 => ds.length + 1 = n ∧ sp (.fn C :: ds) M2 (kXC E ρ2) (kQC Q ρ2)
def pSubO (C : Str) (sp : SpP) (t ti : TEp) : TEp := fun ρ M E Q => t ρ M E fun x ρ1 M1 => ti ρ1 M1 E fun y ρ2 M2 => (∃ fs, cn M2 x = .obj C fs) ∧ sp [x, y] M2 (kXC E ρ2) (kQC Q ρ2)
def pMkL (C : Str) (n : Nat) (sp : SpP) (t : TEp) (ta : TAp) : TEp := fun ρ M E Q => t ρ M E fun x ρ1 M1 => x = .fn C ∧ pMk C n sp ta ρ1 M1 E Q
section
variable {W : WX} {X : Cx} {C mn : Str} {k n : Nat} {m : Bool} {sp : SpP} {o i fe e : Expr} {es : List Expr} {t ti : TEp} {ta : TAp} {x : Str} {p pos apos : Pos}
theorem pp_gf {f : Addr} (hm : X.mg x = some (.ref f)) (hk : PySem.W.keepIn X.K (.ref f) = true) (hg : Gl X x := by rfl) (hd : (x == ("__debug__" : Str)) = false := by decide) : PEp W X (.Name x pos) (pGf x) := pp_c (pe_glob (v := .ref f) hg hm rfl hd) fun _ => .fn hm hk
theorem pp_mk (tk : Takes X W) (F : MtF X.prog X.w X.K X.mg X.base (KdI X.K X.mg C) k n m sp) (hr : Room (k + 1) X.A) (hg : Gl X C) (ha : PAp W X (e :: es) ta) (hdb : (C == ("__debug__" : Str)) = false := by decide)
    (he : starEach (e :: es) X.env = (false, eval e X.env) :: starEach es X.env := by rfl) (hpl : (backTo pos (starEach es X.env)).any (·.1) = false := by rfl) : PEp W X (.Call (.Name C p) (e :: es) [] pos) (pMk C n sp ta) := by
  obtain ⟨f, ⟨Ca, h1, M⟩, G⟩ := F.ex
  exact PE.imp (pe_mkS M G hr hg h1 (passAt tk) ha hdb he hpl) fun σ H Q h => mk_lift h1 h
theorem pp_mkL (tk : Takes X W) (F : MtF X.prog X.w X.K X.mg X.base (KdI X.K X.mg C) k n m sp) (hr : Room (k + 1) X.A) (hf : PEp W X fe t) (ha : PAp W X (e :: es) ta)
    (hc : eval (.Call fe (e :: es) [] pos) X.env = (do callWith pos (← eval fe X.env) [] (backTo pos (starEach (e :: es) X.env)) (backToKw pos (keywordEach [] X.env))) := by rfl)
    (he : starEach (e :: es) X.env = (false, eval e X.env) :: starEach es X.env := by rfl) (hpl : (backTo pos (starEach es X.env)).any (·.1) = false := by rfl) : PEp W X (.Call fe (e :: es) [] pos) (pMkL C n sp t ta) := by
  obtain ⟨f, ⟨Ca, h1, M⟩, G⟩ := F.ex
  refine PE.imp (pe_mkL M G hr (passAt tk) hf ha hc he hpl) fun σ H Q ⟨w, e, B, ρ, Q0, E0, R, h, kk, xx⟩ => ⟨w, e, B, ρ, _, E0, R, h, fun x ρ1 M1 ⟨ex, q⟩ w1 v e1 k1 R1 r1 => ?_, xx⟩
  subst ex e1
  cases r1 with
  | fn g1 g2 =>
    rw [h1] at g1
    cases g1
    exact ⟨rfl, mk_lift h1 ⟨w1, rfl, B, ρ1, Q0, E0, R1, q, fun d ρ' M' q' w' v e' k' => kk d ρ' M' q' w' v e' (k1.trans k'), xx.ke k1⟩⟩
theorem pp_mth {pl : Sem Bool} (tk : Takes X W) (F : MtF X.prog X.w X.K X.mg X.base (KdM X.K X.mg C mn) k n m sp) (hr : Room k X.A) (ho : PEp W X o t) (ha : PAp W X (e :: es) ta)
    (hst : starEach (e :: es) X.env = (false, eval e X.env) :: starEach es X.env := by rfl) (hpl : (backTo pos (starEach es X.env)).any (·.1) = false := by rfl)
    (ht : eval (.Call (.Attribute o mn apos) (e :: es) [] pos) X.env = (do let ov ← eval o X.env; standAt apos.atName; let (f, first) ← holding [ov] (getMethod ov mn pl); callWith pos f first (backTo pos (starEach (e :: es) X.env)) (backToKw pos (keywordEach [] X.env))) := by rfl) :
    PEp W X (.Call (.Attribute o mn apos) (e :: es) [] pos) (pMth C mn n sp t ta) := by
  obtain ⟨f, ⟨Ca, h1, c, M⟩, G⟩ := F.ex
  refine PE.imp (pe_mthS ho c M G hr (passAt tk) ha hst hpl ht) fun σ H Q ⟨w, e, B, ρ, Q0, E0, R, h, kk, xx⟩ => ⟨w, e, B, ρ, _, E0, R, h, fun x ρ1 M1 ⟨⟨fs, hx, hl⟩, q⟩ w1 v e1 k1 R1 r1 => ?_, xx⟩
  subst e1
  have vw := r1.view R1.ok
  rw [hx] at vw
  obtain ⟨a, Cb, dx, fvs, rfl, g1, g2, g3, g4⟩ := vw
  rw [h1] at g1
  cases g1
  refine ⟨a, dx, fvs, rfl, g2, names_lookup g3 hl, w1, rfl, B, ρ1, _, E0, R1, q, fun ds ρ2 M2 ⟨hn, q2⟩ w2 vs e2 k2 R2 r2 => ?_, xx.ke k1⟩
  subst e2
  exact LSp.call (by rw [List.length_cons, r2.len]; exact hn) R2 (.cons (r1.ke k2) r2) q2 (fun d ρ' M' q' w' v e' k' => kk d ρ' M' q' w' v e' ((k1.trans k2).trans k')) (xx.ke (k1.trans k2))
theorem pp_mth0 {pl : Sem Bool} (tk : Takes X W) (F : MtF X.prog X.w X.K X.mg X.base (KdM X.K X.mg C mn) k n m sp) (hr : Room k X.A) (ho : PEp W X o t)
    (ht : eval (.Call (.Attribute o mn apos) [] [] pos) X.env = (do let ov ← eval o X.env; standAt apos.atName; let (f, first) ← holding [ov] (getMethod ov mn pl); callWith pos f first (backTo pos (starEach [] X.env)) (backToKw pos (keywordEach [] X.env))) := by rfl) :
    PEp W X (.Call (.Attribute o mn apos) [] [] pos) (pMth C mn n sp t pNil) := by
  obtain ⟨f, ⟨Ca, h1, c, M⟩, G⟩ := F.ex
  refine PE.imp (pe_mth0S ho c M G hr (passAt tk) ht) fun σ H Q ⟨w, e, B, ρ, Q0, E0, R, h, kk, xx⟩ => ⟨w, e, B, ρ, _, E0, R, h, fun x ρ1 M1 ⟨⟨fs, hx, hl⟩, hn, q⟩ w1 v e1 k1 R1 r1 => ?_, xx⟩
  subst e1
  have vw := r1.view R1.ok
  rw [hx] at vw
  obtain ⟨a, Cb, dx, fvs, rfl, g1, g2, g3, g4⟩ := vw
  rw [h1] at g1
  cases g1
  exact ⟨a, dx, fvs, rfl, g2, names_lookup g3 hl, LSp.call (vs := [V.ref a]) hn R1 (.one r1) q (fun d ρ' M' q' w' v e' k' => kk d ρ' M' q' w' v e' (k1.trans k')) (xx.ke k1)⟩
theorem pp_cls {pl : Sem Bool} (tk : Takes X W) (F : MtF X.prog X.w X.K X.mg X.base (KdC X.K X.mg C mn) k n m sp) (hk : ∃ Ca, X.mg C = some (.ref Ca) ∧ PySem.W.keepIn X.K (.ref Ca) = true) (hr : Room k X.A) (hg : Gl X C) (ha : PAp W X (e :: es) ta) (hdb : (C == ("__debug__" : Str)) = false := by decide)
    (hst : starEach (e :: es) X.env = (false, eval e X.env) :: starEach es X.env := by rfl) (hpl : (backTo pos (starEach es X.env)).any (·.1) = false := by rfl)
    (ht : eval (.Call (.Attribute (.Name C p) mn apos) (e :: es) [] pos) X.env = (do let ov ← eval (.Name C p) X.env; standAt apos.atName; let (f, first) ← holding [ov] (getMethod ov mn pl); callWith pos f first (backTo pos (starEach (e :: es) X.env)) (backToKw pos (keywordEach [] X.env))) := by rfl) :
    PEp W X (.Call (.Attribute (.Name C p) mn apos) (e :: es) [] pos) (pCls C n sp ta) := by
  obtain ⟨f, ⟨Ca, mc, pr, h1, rd, M⟩, G⟩ := F.ex
  obtain ⟨Cb, h2, kp⟩ := hk
  rw [h1] at h2
  cases h2
  refine PE.imp (pe_clsS (pe_glob (v := .ref Ca) hg h1 rfl hdb) rd M G hr (passAt tk) ha hst hpl ht) fun σ H Q ⟨w, e, B, ρ, Q0, E0, R, h, kk, xx⟩ => ⟨rfl, w, e, B, ρ, _, E0, R, h, fun ds ρ2 M2 ⟨hn, q2⟩ w2 vs e2 k2 R2 r2 => ?_, xx⟩
  subst e2
  exact LSp.call (by rw [List.length_cons, r2.len]; exact hn) R2 (.cons (.fn h1 kp) r2) q2 (fun d ρ' M' q' w' v e' k' => kk d ρ' M' q' w' v e' (k2.trans k')) (xx.ke k2)
theorem pp_subO (tk : Takes X W) (F : MtF X.prog X.w X.K X.mg X.base (KdG X.K X.mg C) k 2 m sp) (hr : Room (k + 1) X.A) (ho : PEp W X o t) (hi : PEp W X i ti) (hsl : ∀ ov iv, subscripted i true ov iv = runValue (.builtin "lifetime.subscript" ⟨[ov, iv], []⟩)) :
    PEp W X (.Subscript o i pos) (pSubO C sp t ti) := by
  obtain ⟨f, ⟨Ca, h1, M⟩, G⟩ := F.ex
  refine PE.imp (pe_subS ho hi M G hr (passAt tk) hsl) fun σ H Q ⟨w, e, B, ρ, Q0, E0, R, h, kk, xx⟩ => ⟨w, e, B, ρ, _, E0, R, h, fun x ρ1 M1 q w1 v e1 k1 R1 r1 => ?_, xx⟩
  subst e1
  refine ⟨w1, rfl, B, ρ1, _, E0, R1, q, fun y ρ2 M2 ⟨⟨fs, hx⟩, q2⟩ w2 u e2 k2 R2 r2 => ?_, xx.ke k1⟩
  subst e2
  have vw := (r1.ke k2).view R2.ok
  rw [hx] at vw
  obtain ⟨a, Cb, dx, fvs, rfl, g1, g2, g3, g4⟩ := vw
  rw [h1] at g1
  cases g1
  exact ⟨a, dx, fvs, rfl, g2, LSp.call rfl R2 (.cons (r1.ke k2) (.one r2)) q2 (fun d ρ' M' q' w' v e' k' => kk d ρ' M' q' w' v e' ((k1.trans k2).trans k')) (xx.ke (k1.trans k2))⟩
end
/-! ### properties, fields -/
def FldC (K : PySem.W.Frag) (mg : Str → Option Value) (C f : Str) : Prop := ∃ Ca, mg C = some (.ref Ca) ∧ Cls K Ca ∧ NoAttr K Ca f
def fldD (C f : Str) : D → TEp
  | .obj C' fs => pGu (C' = C) (pOpt (fs.lookup f) pRet)
  | _ => pNo
def pFld (C f : Str) (tb : TBp) : TEp := fun ρ M E Q => tb ρ M E fun b ρ1 M1 => pOpt (b.get ρ1 M1) (fldD C f) ρ1 M1 E Q
def putFD (f : Str) (v : D) : List (Str × D) → List (Str × D)
  | [] => [(f, v)]
  | z :: r => if z.1 = f then (f, v) :: r else z :: putFD f v r
def setFD (C f : Str) (v : D) : D → (D → Prop) → Prop
  | .obj C' fs, k => C' = C ∧ fs.length < 1000 ∧ k (.obj C (putFD f v fs))
  | _, _ => False
def sFldP (C f : Str) (tb : TBp) (te : TEp) : TSp := fun E D ρ M => te ρ M E fun v ρ1 M1 => tb ρ1 M1 E fun b ρ2 M2 => ∃ c, b.get ρ2 M2 = some c ∧ setFD C f v c fun c' => ∃ ρ3 M3, b.put ρ2 M2 c' = some (ρ3, M3) ∧ D.nx ρ3 M3
section
variable {W : WX} {X : Cx} {C f : Str} {k : Nat} {m : Bool} {sp : SpP} {o e : Expr} {t te : TEp} {tb : TBp} {pos pos' : Pos}
theorem pp_prp (F : MtF X.prog X.w X.K X.mg X.base (KdP X.K X.mg C f) k 1 m sp) (hr : Room (k + 1) X.A) (ho : PEp W X o t) (hab : attributeBase o f X.env (eval o X.env) = eval o X.env := by rfl) : PEp W X (.Attribute o f pos) (pPrp C sp t) := by
  obtain ⟨g, ⟨Ca, pr, h1, c, M⟩, G⟩ := F.ex
  obtain ⟨fd, ps, G, b⟩ := G.ex
  refine PE.imp (pe_prop (E := E0) ho c M G hr b .nil (passes_call (W := fun _ _ _ _ => False) takes_none5 fun _ _ _ _ z => z) hab) fun σ H Q ⟨w, e, B, ρ, Q0, E1, R, h, kk, xx⟩ => ⟨w, e, B, ρ, _, E1, R, h, fun x ρ1 M1 ⟨⟨fs, hx⟩, q⟩ w1 v e1 k1 R1 r1 => ?_, xx⟩
  subst e1
  have vw := r1.view R1.ok
  rw [hx] at vw
  obtain ⟨a, Cb, dx, fvs, rfl, g1, g2, g3, g4⟩ := vw
  rw [h1] at g1
  cases g1
  refine ⟨a, dx, fvs, rfl, g2, ?_⟩
  have z := LSp.call (W := fun _ _ _ _ => False) (E0 := fun _ _ _ _ => False) (vs := [V.ref a]) (n := 1) (m := m) rfl R1 (.one r1) q (fun d ρ' M' q' w' v e' k' => kk d ρ' M' q' w' v e' (k1.trans k')) (fun _ _ _ _ z => z.elim)
  exact z
theorem pp_fld (hC : FldC X.K X.mg C f) (hb : PBp W X o tb) (hab : attributeBase o f X.env (eval o X.env) = eval o X.env := by rfl) : PEp W X (.Attribute o f pos) (pFld C f tb) := by
  obtain ⟨Ca, h1, c, na⟩ := hC
  refine PE.imp (pe_fld hb hab) fun σ H Q ⟨w, e, B, ρ, Q0, E1, R, h, kk, xx⟩ => ⟨w, e, B, ρ, _, E1, R, h, fun b ρ1 M1 q w1 v e1 k1 R1 acc => ?_, xx⟩
  subst e1
  obtain ⟨cc, hc, l⟩ := LW.opt (K := X.K) (mg := X.mg) (W := W) (σ := σ) (Q := Q) (w := w1) ⟨B, ρ1, Q0, E1, R1, q, fun d ρ3 M3 q3 w3 v3 e3 k3 R3 r3 => kk d ρ3 M3 q3 w3 v3 e3 (k1.trans k3) R3 r3, xx.ke k1⟩
  have vw := acc.get w1 ρ1 (Ke.refl _ _) R1 cc hc
  unfold fldD at l
  split at l
  · obtain ⟨ec, l2⟩ := l.gu
    obtain ⟨d, hd, l3⟩ := l2.opt
    subst ec
    obtain ⟨a, Cb, dx, fvs, rfl, g1, g2, g3, g4⟩ := vw
    rw [h1] at g1
    cases g1
    obtain ⟨u, hu, ru⟩ := reps_lookup g3 g4 hd
    exact ⟨a, Ca, dx, fvs, u, rfl, g2, c, na, hu, l3.ret ru⟩
  · exact l.no.elim
theorem putF_names : ∀ {fvs : List (Str × V)} {fs : List (Str × D)} {y : V} {v : D}, fvs.map (·.1) = fs.map (·.1) → (putF f y fvs).map (·.1) = (putFD f v fs).map (·.1)
  | [], [], _, _, _ => rfl
  | [], _ :: _, _, _, h => by cases h
  | _ :: _, [], _, _, h => by cases h
  | (a, u) :: r, (b, x) :: t, y, v, h => by
    have h1 : a = b := (List.cons.inj h).1
    have h2 : r.map (·.1) = t.map (·.1) := (List.cons.inj h).2
    subst h1
    unfold putF putFD
    by_cases e : a = f
    · subst e
      simp [h2]
    · simp only [if_neg e]
      simp [putF_names (y := y) (v := v) h2]
theorem putF_reps {K : PySem.W.Frag} {mg : Str → Option Value} {Z : Addr → Prop} {H : Hp} {y : V} {v : D} (ry : Rep K mg Z H y v) : ∀ {fvs : List (Str × V)} {fs : List (Str × D)}, fvs.map (·.1) = fs.map (·.1) → Reps K mg Z H (fvs.map (·.2)) (fs.map (·.2)) → Reps K mg Z H ((putF f y fvs).map (·.2)) ((putFD f v fs).map (·.2))
  | [], [], _, _ => .one ry
  | [], _ :: _, h, _ => by cases h
  | _ :: _, [], h, _ => by cases h
  | (a, u) :: r, (b, x) :: t, h, rr => by
    have h1 : a = b := (List.cons.inj h).1
    have h2 : r.map (·.1) = t.map (·.1) := (List.cons.inj h).2
    subst h1
    cases rr with
    | cons r1 r2 =>
      unfold putF putFD
      by_cases e : a = f
      · subst e
        simp only [if_true, beq_self_eq_true]
        exact .cons ry r2
      · simp only [if_neg e]
        exact .cons r1 (putF_reps ry h2 r2)
theorem s_fld (hC : FldC X.K X.mg C f) (hb : PBp W X o tb) (he : PEp W X e te) (hs : swapsWith e (some (.Attribute o f pos')) pos.line X.env = pure false := by rfl) : PSp W m X (.Assign [.Attribute o f pos'] e pos) (sFldP C f tb te) := by
  obtain ⟨Ca, h1, c, na⟩ := hC
  refine PS.imp (ps_fld hb he hs) fun D σ H ⟨w, e, B, ρ, Dp, E0, R, h, d, x⟩ => ⟨w, e, B, ρ, _, E0, R, h, fun v ρ1 M1 q1 w1 u1 e1 k1 R1 r1 => ?_, x.lx⟩
  subst e1
  refine ⟨w1, rfl, B, ρ1, _, E0, R1, q1, fun b ρ2 M2 q2 w2 u2 e2 k2 R2 acc => ?_, (x.ke k1).lx⟩
  subst e2
  obtain ⟨cc, hc, q2⟩ := q2
  have vw := acc.get w2 ρ2 (Ke.refl _ _) R2 cc hc
  unfold setFD at q2
  split at q2
  · obtain ⟨ec, hl, ρ3, M3, hp, q3⟩ := q2
    subst ec
    obtain ⟨a, Cb, dx, fvs, rfl, g1, g2, g3, g4⟩ := vw
    rw [h1] at g1
    cases g1
    obtain ⟨p', e', ke, hR⟩ := acc.put w2 ρ2 (Ke.refl _ _) R2 _ _ _ hp
    cases e'
    have hlen : fvs.length < 1000 := by
      have := congrArg List.length g3
      rw [List.length_map, List.length_map] at this
      omega
    refine ⟨a, Ca, dx, fvs, rfl, g2, c, na, hlen, ?_⟩
    exact d.nx ρ3 M3 q3 ⟨w2.Z, M3, _⟩ σ rfl ((k1.trans k2).trans (ke _)) (hR _ ⟨Ca, dx, _, h1, upd_same, putF_names g3, (putF_reps (r1.ke k2) g3 g4).ke (ke _)⟩)
  · exact q2.elim
end
end CM

/-! the pure layer: defs as values; comprehensions that change cells; the readings of objects, applied -/
namespace CM
open PySem PySem.Spec PyProof.Rows L2
abbrev VTab := Str → Option (Nat × SpP)
def tVal (P : Program) (w : World) (K : PySem.W.Frag) (mg : Str → Option Value) (base : Heap) (k : Nat) (E : XS) (tf : TE) (t : TA) : TE := fun σ H Q => tf σ H fun v H1 => KeptV K v ∧ t σ H1 fun vs H2 => ∃ f sp, v = .ref f ∧ FnM P w K mg base k f sp ∧ sp vs H2 Q (E σ)
structure VTok (P : Program) (w : World) (K : PySem.W.Frag) (mg : Str → Option Value) (base : Heap) (k : Nat) (T : VTab) : Prop where
  at_ : ∀ x n sp, T x = some (n, sp) → ∃ f m, mg x = some (.ref f) ∧ FnM P w K mg base k f (LSp K mg m n sp)
def pCallV (T : VTab) (t : TEp) (ta : TAp) : TEp := fun ρ M E Q => t ρ M E fun v ρ1 M1 => (∃ x, v = .fn x) ∧ ta ρ1 M1 E fun ds ρ2 M2 => ∃ x n sp, v = .fn x ∧ T x = some (n, sp) ∧ ds.length = n ∧ sp ds M2 (kXC E ρ2) (kQC Q ρ2)
section
variable {X : Cx} {k : Nat} {E : XS} {fe e : Expr} {es : List Expr} {pos : Pos} {tf : TE} {t : TA}
theorem pe_val (hr : Room k X.A) (hx : ∀ σ, PassesAt (L2.CX X.prog X.w) X σ (E σ)) (hf : PE X fe tf) (ha : PA X (e :: es) t)
    (hc : eval (.Call fe (e :: es) [] pos) X.env = (do callWith pos (← eval fe X.env) [] (backTo pos (starEach (e :: es) X.env)) (backToKw pos (keywordEach [] X.env))) := by rfl)
    (he : starEach (e :: es) X.env = (false, eval e X.env) :: starEach es X.env := by rfl) (hpl : (backTo pos (starEach es X.env)).any (·.1) = false := by rfl) : PE X (.Call fe (e :: es) [] pos) (tVal X.prog X.w X.K X.mg X.base k E tf t) := by
  constructor
  intro pins s σ H Q I h
  refine Call_ (thn (hf.run pins s σ H _ I h) fun u s1 ⟨v, H1, I1, r1, ⟨f, ev, hk⟩, q1⟩ => ?_) hc
  subst ev
  cases (show u = Value.ref f from r1)
  refine PySem.W.callWith_K (h₀ := X.base) I.ok.mod.kin hk (thn (ha.run pos pins s1 σ H1 _ I1 q1) fun us s2 ⟨vs, H2, I2, r, f', sp, e1, F, q⟩ => ⟨I2.kIn, ?_⟩) he hpl
  cases e1
  exact F.call hr (hx σ) I2 r q
end
section
variable {P : Program} {w : World} {K : PySem.W.Frag} {mg : Str → Option Value} {base : Heap}
theorem FnM.mono {j k : Nat} {f : Addr} {sp : Sp} (F : FnM P w K mg base j f sp) (h : j ≤ k) : FnM P w K mg base k f sp := by
  obtain ⟨fd, ps, G, b⟩ := F.ex
  exact ⟨fd, ps, G.mono h, b⟩
theorem FnP.val {x : Str} {j k : Nat} {ps : List Str} {m : Bool} {sp : SpP} (F : FnP P w K mg base x j ps m sp) (h : j ≤ k) : ∃ f m, mg x = some (.ref f) ∧ FnM P w K mg base k f (LSp K mg m ps.length sp) := by
  obtain ⟨f, fd, h1, G, _, b, _⟩ := F.ex
  exact ⟨f, m, h1, fd, ps, G.mono h, b⟩
def vt0 : VTab := fun _ => none
def vtC (x : Str) (n : Nat) (sp : SpP) (T : VTab) : VTab := fun y => if y = x then some (n, sp) else T y
theorem vtok0 {k : Nat} : VTok P w K mg base k vt0 := ⟨fun _ _ _ z => by cases z⟩
theorem vtokC {x : Str} {j k n : Nat} {ps : List Str} {m : Bool} {sp : SpP} {T : VTab} (F : FnP P w K mg base x j ps m sp) (h : j ≤ k) (hn : ps.length = n) (r : VTok P w K mg base k T) : VTok P w K mg base k (vtC x n sp T) := ⟨fun y n' sp' e => by
  unfold vtC at e
  split at e
  · rename_i hy
    cases e
    subst hy hn
    exact F.val h
  · exact r.at_ y n' sp' e⟩
end
section
variable {W : WX} {X : Cx} {k : Nat} {fe e : Expr} {es : List Expr} {pos : Pos} {t : TEp} {ta : TAp} {T : VTab}
theorem pp_val (tk : Takes X W) (V : VTok X.prog X.w X.K X.mg X.base k T) (hr : Room k X.A) (hf : PEp W X fe t) (ha : PAp W X (e :: es) ta)
    (hc : eval (.Call fe (e :: es) [] pos) X.env = (do callWith pos (← eval fe X.env) [] (backTo pos (starEach (e :: es) X.env)) (backToKw pos (keywordEach [] X.env))) := by rfl)
    (he : starEach (e :: es) X.env = (false, eval e X.env) :: starEach es X.env := by rfl) (hpl : (backTo pos (starEach es X.env)).any (·.1) = false := by rfl) : PEp W X (.Call fe (e :: es) [] pos) (pCallV T t ta) := by
  refine PE.imp (pe_val hr (passAt tk) hf ha hc he hpl) fun σ H Q ⟨w, e, B, ρ, Q0, E0, R, h, kk, xx⟩ => ⟨w, e, B, ρ, _, E0, R, h, fun v ρ1 M1 ⟨⟨x, ev⟩, q⟩ w1 u e1 k1 R1 r1 => ?_, xx⟩
  subst e1 ev
  cases r1 with
  | @fn _ f g1 g2 =>
    refine ⟨⟨f, rfl, g2⟩, w1, rfl, B, ρ1, _, E0, R1, q, fun ds ρ2 M2 ⟨y, n, sp, ey, hT, hn, q2⟩ w2 vs e2 k2 R2 r2 => ?_, xx.ke k1⟩
    subst e2
    cases ey
    obtain ⟨f', m, h1, G⟩ := V.at_ _ _ _ hT
    rw [g1] at h1
    cases h1
    exact ⟨f, _, rfl, G, LSp.call (by rw [r2.len]; exact hn) R2 r2 q2 (fun d ρ' M' q' w' v e' k' => kk d ρ' M' q' w' v e' ((k1.trans k2).trans k')) (xx.ke (k1.trans k2))⟩
end
/-! ### comprehensions, by an invariant -/
theorem compP_inv {g : TGp} {tt : TTp} {te : TEp} {vs : List Nat} {chk : PHp → Prop} {Q : List D → PSt → PHp → Prop} {ds : List D} {ρ : PSt} {M : PHp} (I : Nat → List D → PHp → Prop) (hρ : wipeP ρ vs = ρ) (h0 : I 0 [] M) (hc : ∀ i acc M, I i acc M → chk M)
    (hs : ∀ i x acc M (N1 : D → PSt → PHp → Prop) (N2 : PSt → PHp → Prop), ds[i]? = some x → I i acc M → (∀ d ρ' M', wipeP ρ' vs = ρ → I (i + 1) (acc ++ [d]) M' → N1 d ρ' M') → (∀ ρ' M', wipeP ρ' vs = ρ → I (i + 1) acc M' → N2 ρ' M') →
      g x ρ M fun ρ2 M2 => tt ρ2 M2 noX fun b ρ3 M3 => if b = true then te ρ3 M3 noX N1 else N2 ρ3 M3)
    (hd : ∀ acc M, I ds.length acc M → Q acc ρ M) : compP g tt te vs chk Q ds [] ρ M := by
  have key : ∀ (n i : Nat), i + n = ds.length → ∀ acc ρ1 M, wipeP ρ1 vs = ρ → I i acc M → compP g tt te vs chk Q (ds.drop i) acc ρ1 M := by
    intro n
    induction n with
    | zero =>
      intro i hi acc ρ1 M hw h
      have e : i = ds.length := by omega
      subst e
      rw [List.drop_length]
      exact ⟨hc _ _ _ h, by rw [hw]; exact hd _ _ h⟩
    | succ n ih =>
      intro i hi acc ρ1 M hw h
      have hlt : i < ds.length := by omega
      rw [List.drop_eq_getElem_cons hlt]
      refine ⟨hc _ _ _ h, ?_⟩
      rw [hw]
      exact hs i _ acc M _ _ (List.getElem?_eq_getElem hlt) h (fun d ρ' M' w' h' => ih (i + 1) (by omega) _ ρ' M' w' h') fun ρ' M' w' h' => ih (i + 1) (by omega) _ ρ' M' w' h'
  exact key ds.length 0 (by omega) [] ρ M hρ h0
end CM

/-! the pure layer: the readings of objects, applied (for simp) -/
namespace CM
open PySem PySem.Spec PyProof.Rows L2
section
variable {ρ : PSt} {M : PHp} {E : XP} {Q : QP} {Qb : Bool → PSt → PHp → Prop} {D' : EndsP} {t ti te : TEp} {ta : TAp} {tb : TBp} {sp : SpP} {C C' f mn : Str} {n k : Nat} {d e : D} {xs : List D} {fs : List (Str × D)} {x : Addr} {T : VTab} {y : Str}
theorem n_obj : cn M (.obj C fs) = .obj C fs := rfl
theorem n_fn : cn M (.fn y) = .fn y := rfl
theorem u_gf : pGf y ρ M E Q = Q (.fn y) ρ M := rfl
/-! making -/
def mkX (E : XP) (ρ : PSt) (x : Addr) : XC := fun c g M2 => E c g ρ (delM M2 x)
def mkQ (Q : QP) (ρ : PSt) (x : Addr) : D → PHp → Prop := fun d M2 => d = .non ∧ ∃ c, M2 x = some c ∧ Q c ρ (delM M2 x)
def kmk (C : Str) (n : Nat) (sp : SpP) (E : XP) (Q : QP) : List D → PSt → PHp → Prop := fun ds ρ' M' => ds.length + 1 = n ∧ ∀ x, M' x = none → sp (.ref x :: ds) (updM M' x (.obj C [])) (mkX E ρ' x) (mkQ Q ρ' x)
theorem u_mk : pMk C n sp ta ρ M E Q = ta ρ M E (kmk C n sp E Q) := rfl
theorem u_mk1 : kmk C n sp E Q xs ρ M = (xs.length + 1 = n ∧ ∀ x, M x = none → sp (.ref x :: xs) (updM M x (.obj C [])) (mkX E ρ x) (mkQ Q ρ x)) := rfl
theorem u_mkX {c : Str} : mkX E ρ x c d M = E c d ρ (delM M x) := rfl
theorem u_mkQ : mkQ Q ρ x .non (updM M x d) = Q d ρ (delM (updM M x d) x) := by
  unfold mkQ
  simp [updM_same]
def kmkL (C : Str) (n : Nat) (sp : SpP) (ta : TAp) (E : XP) (Q : QP) : QP := fun x ρ1 M1 => x = .fn C ∧ pMk C n sp ta ρ1 M1 E Q
theorem u_mkL : pMkL C n sp t ta ρ M E Q = t ρ M E (kmkL C n sp ta E Q) := rfl
theorem u_mkL1 : kmkL C n sp ta E Q (.fn C) ρ M = pMk C n sp ta ρ M E Q := by unfold kmkL; simp
/-! methods -/
def mthC (C m : Str) (d : D) : Prop := ∃ fs, d = .obj C fs ∧ fs.lookup m = none
theorem u_mthC : mthC C mn (.obj C fs) = (fs.lookup mn = none) := by unfold mthC; simp
def kmth2 (x : D) (n : Nat) (sp : SpP) (E : XP) (Q : QP) : List D → PSt → PHp → Prop := fun ds ρ2 M2 => ds.length + 1 = n ∧ sp (x :: ds) M2 (kXC E ρ2) (kQC Q ρ2)
def kmth (C m : Str) (n : Nat) (sp : SpP) (ta : TAp) (E : XP) (Q : QP) : QP := fun x ρ1 M1 => mthC C m (cn M1 x) ∧ ta ρ1 M1 E (kmth2 x n sp E Q)
theorem u_mth : pMth C mn n sp t ta ρ M E Q = t ρ M E (kmth C mn n sp ta E Q) := rfl
theorem u_mth1 : kmth C mn n sp ta E Q d ρ M = (mthC C mn (cn M d) ∧ ta ρ M E (kmth2 d n sp E Q)) := rfl
theorem u_mth2 : kmth2 d n sp E Q xs ρ M = (xs.length + 1 = n ∧ sp (d :: xs) M (kXC E ρ) (kQC Q ρ)) := rfl
def isC (C : Str) (d : D) : Prop := ∃ fs, d = .obj C fs
theorem u_isC : isC C (.obj C fs) = True := by unfold isC; simp
def noXC : XC := fun _ _ _ => False
def kprp (C : Str) (sp : SpP) (Q : QP) : QP := fun x ρ1 M1 => isC C (cn M1 x) ∧ sp [x] M1 noXC (kQC Q ρ1)
theorem u_prp : pPrp C sp t ρ M E Q = t ρ M E (kprp C sp Q) := rfl
theorem u_prp1 : kprp C sp Q d ρ M = (isC C (cn M d) ∧ sp [d] M noXC (kQC Q ρ)) := rfl
def kcls (C : Str) (n : Nat) (sp : SpP) (E : XP) (Q : QP) : List D → PSt → PHp → Prop := fun ds ρ2 M2 => ds.length + 1 = n ∧ sp (.fn C :: ds) M2 (kXC E ρ2) (kQC Q ρ2)
theorem u_cls : pCls C n sp ta ρ M E Q = ta ρ M E (kcls C n sp E Q) := rfl
theorem u_cls1 : kcls C n sp E Q xs ρ M = (xs.length + 1 = n ∧ sp (.fn C :: xs) M (kXC E ρ) (kQC Q ρ)) := rfl
def ksub2 (C : Str) (sp : SpP) (x : D) (E : XP) (Q : QP) : QP := fun y ρ2 M2 => isC C (cn M2 x) ∧ sp [x, y] M2 (kXC E ρ2) (kQC Q ρ2)
def ksub1 (C : Str) (sp : SpP) (ti : TEp) (E : XP) (Q : QP) : QP := fun x ρ1 M1 => ti ρ1 M1 E (ksub2 C sp x E Q)
theorem u_sub : pSubO C sp t ti ρ M E Q = t ρ M E (ksub1 C sp ti E Q) := rfl
theorem u_sub1 : ksub1 C sp ti E Q d ρ M = ti ρ M E (ksub2 C sp d E Q) := rfl
theorem u_sub2 : ksub2 C sp d E Q e ρ M = (isC C (cn M d) ∧ sp [d, e] M (kXC E ρ) (kQC Q ρ)) := rfl
/-! fields -/
def fldK (o : Option D) (C f : Str) (ρ : PSt) (M : PHp) (E : XP) (Q : QP) : Prop := pOpt o (fldD C f) ρ M E Q
def kfld (C f : Str) (E : XP) (Q : QP) : Bs → PSt → PHp → Prop := fun b ρ1 M1 => fldK (b.get ρ1 M1) C f ρ1 M1 E Q
theorem u_fld : pFld C f tb ρ M E Q = tb ρ M E (kfld C f E Q) := rfl
theorem u_fld1 {b : Bs} : kfld C f E Q b ρ M = fldK (b.get ρ M) C f ρ M E Q := rfl
theorem u_fld2 : fldK (some (.obj C fs)) C f ρ M E Q = pOpt (fs.lookup f) pRet ρ M E Q := by
  show (C = C ∧ pOpt (fs.lookup f) pRet ρ M E Q) = _
  simp
def sfdK (o : Option D) (C f : Str) (v : D) (R : D → Prop) : Prop := match o with | some c => setFD C f v c R | none => False
theorem u_sfdK {R : D → Prop} : sfdK (some (.obj C fs)) C f d R = (fs.length < 1000 ∧ R (.obj C (putFD f d fs))) := by
  show (C = C ∧ fs.length < 1000 ∧ R (.obj C (putFD f d fs))) = _
  simp
def ksf2 (C f : Str) (v : D) (D : EndsP) : Bs → PSt → PHp → Prop := fun b ρ2 M2 => sfdK (b.get ρ2 M2) C f v (kputR b ρ2 M2 D)
def ksf1 (C f : Str) (tb : TBp) (E : XP) (D : EndsP) : QP := fun v ρ1 M1 => tb ρ1 M1 E (ksf2 C f v D)
theorem u_sf1 : ksf1 C f tb E D' d ρ M = tb ρ M E (ksf2 C f d D') := rfl
theorem u_sf2 {b : Bs} : ksf2 C f d D' b ρ M = sfdK (b.get ρ M) C f d (kputR b ρ M D') := rfl
theorem u_sf : sFldP C f tb te E D' ρ M = te ρ M E (ksf1 C f tb E D') := by
  unfold sFldP
  congr 1
  funext v ρ1 M1
  rw [u_sf1]
  congr 1
  funext b ρ2 M2
  rw [u_sf2]
  unfold sfdK
  cases e : b.get ρ2 M2 with
  | none => simp
  | some c =>
    simp only [Option.some.injEq, exists_eq_left']
    congr 1
    funext c'
    rw [u_putQ, putE_eq]
theorem u_pf0 : putFD f d [] = [(f, d)] := rfl
/-! defs as values -/
def isFn (d : D) : Prop := ∃ x, d = .fn x
theorem u_isFn : isFn (.fn y) = True := by unfold isFn; simp
def kval2 (T : VTab) (v : D) (E : XP) (Q : QP) : List D → PSt → PHp → Prop := fun ds ρ2 M2 => ∃ x n sp, v = .fn x ∧ T x = some (n, sp) ∧ ds.length = n ∧ sp ds M2 (kXC E ρ2) (kQC Q ρ2)
def kval (T : VTab) (ta : TAp) (E : XP) (Q : QP) : QP := fun v ρ1 M1 => isFn v ∧ ta ρ1 M1 E (kval2 T v E Q)
theorem u_val : pCallV T t ta ρ M E Q = t ρ M E (kval T ta E Q) := rfl
theorem u_val1 : kval T ta E Q d ρ M = (isFn d ∧ ta ρ M E (kval2 T d E Q)) := rfl
def valK (o : Option (Nat × SpP)) (ds : List D) (ρ : PSt) (M : PHp) (E : XP) (Q : QP) : Prop := match o with | some z => ds.length = z.1 ∧ z.2 ds M (kXC E ρ) (kQC Q ρ) | none => False
theorem u_val2 : kval2 T (.fn y) E Q xs ρ M = valK (T y) xs ρ M E Q := by
  apply propext
  constructor
  · rintro ⟨x, n', sp', e1, e2, h⟩
    cases e1
    rw [e2]
    exact h
  · intro h
    cases e : T y with
    | none =>
      rw [e] at h
      exact h.elim
    | some z =>
      rw [e] at h
      exact ⟨y, z.1, z.2, rfl, e, h⟩
theorem u_val3 : valK (some (n, sp)) xs ρ M E Q = (xs.length = n ∧ sp xs M (kXC E ρ) (kQC Q ρ)) := rfl
theorem u_vt1 : vtC y n sp T y = some (n, sp) := by unfold vtC; simp
theorem u_vt2 {z : Str} (h : (z == y) = false) : vtC y n sp T z = T z := by
  unfold vtC
  rw [if_neg (by simpa using h)]
end
end CM

/-! the pure layer: a def's name as a value -/
namespace CM
open PySem PySem.Spec PyProof.Rows L2
theorem pp_gfF {W : WX} {X : Cx} {x : Str} {k : Nat} {ps : List Str} {m : Bool} {sp : SpP} {pos : Pos} (F : FnP X.prog X.w X.K X.mg X.base x k ps m sp) (hg : Gl X x := by rfl) (hd : (x == ("__debug__" : Str)) = false := by decide) : PEp W X (.Name x pos) (pGf x) := by
  obtain ⟨f, fd, h1, _, h2, _⟩ := F.ex
  exact pp_gf h1 h2 hg hd
end CM

/-! the pure layer: range going down by one -/
namespace CM
open PySem PySem.Spec PyProof.Rows L2
def rangeN (hi : Int) (n : Nat) : List D := (List.range n).map fun i => .int (hi - (i : Nat))
def iR3 (ta : TAp) : TItp := fun ρ M E Q => ta ρ M E fun ds ρ' M' => match ds with
  | [.int i, .int j, .int c] => c = -1 ∧ (-(2 ^ 62) ≤ i ∧ i < 2 ^ 62 ∧ -(2 ^ 62) ≤ j ∧ j < 2 ^ 62) ∧ Q (rangeN i (i - j).toNat) noChk ρ' M'
  | _ => False
theorem walkP_rngN {K : PySem.W.Frag} {mg : Str → Option Value} {w : Wd} (hi : Int) (n : Nat) : WalkP K mg w (Itc hi (-1) n) (rangeN hi n) noChk := by
  refine walkP_same (fun i w1 k o c hi => ?_) (fun w1 k o c => ?_) fun i w1 x H' k o c hi' y => ?_
  · show i < n
    simpa [rangeN] using hi
  · show n ≤ (rangeN hi n).length
    simp [rangeN]
  · obtain ⟨h1, rfl⟩ := y
    have hi' : i < n := by simpa [rangeN] using hi'
    refine ⟨h1, .int (hi + (i : Nat) * (-1)), ?_, .int _⟩
    have e : hi + (i : Nat) * (-1) = hi - (i : Nat) := by omega
    rw [e]
    simp [rangeN, hi']
theorem ip_range3 {W : WX} {X : Cx} {tg e : Expr} {ta : TAp} {p pos : Pos} {b c : Expr} (hg : Gl X "range") (hm : X.mg "range" = none) (h : PAp W X [e, b, c] ta) (hs : starEach [e, b, c] X.env = (false, eval e X.env) :: starEach [b, c] X.env := by rfl) (hs2 : (backTo pos (starEach [b, c] X.env)).any (·.1) = false := by rfl) :
    PIp' W X tg (.Call (.Name "range" p) [e, b, c] [] pos) (iR3 ta) := PI.imp (pi_range3 hg hm h hs hs2) fun σ H Q ⟨w, e, B, ρ, Q0, E0, R, h, k, x⟩ =>
  ⟨w, e, B, ρ, _, E0, R, h, fun ds ρ' M' q w' vs e' k' R' r' => by
    split at q
    · cases r' with
      | cons r1 r2 =>
        cases r2 with
        | cons r2 r3 =>
          cases r3 with
          | cons r3 r4 =>
            cases r1; cases r2; cases r3; cases r4
            obtain ⟨rfl, q1, q2⟩ := q
            exact ⟨_, _, _, _, rfl, RgC.neg q1.1 q1.2.1 q1.2.2.1 q1.2.2.2, k _ _ ρ' M' q2 w' _ e' k' R' (walkP_rngN _ _)⟩
    · exact q.elim, x⟩
section
variable {ρ : PSt} {M : PHp} {E : XP} {ta : TAp} {i j : Int} {Qi : List D → (PHp → Prop) → PSt → PHp → Prop}
def kR3 (Qi : List D → (PHp → Prop) → PSt → PHp → Prop) : List D → PSt → PHp → Prop := fun ds ρ' M' => match ds with
  | [.int i, .int j, .int c] => c = -1 ∧ (-(2 ^ 62) ≤ i ∧ i < 2 ^ 62 ∧ -(2 ^ 62) ≤ j ∧ j < 2 ^ 62) ∧ Qi (rangeN i (i - j).toNat) noChk ρ' M'
  | _ => False
theorem u_iR3 : iR3 ta ρ M E Qi = ta ρ M E (kR3 Qi) := rfl
theorem u_iR31 : kR3 Qi [.int i, .int j, .int (-1)] ρ M = ((-(2 ^ 62) ≤ i ∧ i < 2 ^ 62 ∧ -(2 ^ 62) ≤ j ∧ j < 2 ^ 62) ∧ Qi (rangeN i (i - j).toNat) noChk ρ M) := by
  show ((-1 : Int) = -1 ∧ _) = _
  simp
end
end CM

/-! the pure layer: the defs of classes, for the head -/
namespace CM
open PySem PySem.Spec PyProof.Rows L2
section
variable {K : PySem.W.Frag} {h : Heap} {mg : Str → Option Value} {C name qual : Str} {st : Stmt} {ps : List Str} {Ca f p : Addr} {oc mc : Value} {od an : Option Addr} {osl : Array (Option Value)} {kV doc pm cdv ct : Value} {rest : List Value}
abbrev MDfM (_ : K.In h) (mg : Str → Option Value) (C name qual : Str) (st : Stmt) (ps : List Str) : Prop := MDf K name qual st ps (KdM K mg C name)
abbrev MDfI (_ : K.In h) (mg : Str → Option Value) (C name qual : Str) (st : Stmt) (ps : List Str) : Prop := MDf K name qual st ps (KdI K mg C)
abbrev MDfP (_ : K.In h) (mg : Str → Option Value) (C name qual : Str) (st : Stmt) (ps : List Str) : Prop := MDf K name qual st ps (KdP K mg C name)
abbrev MDfC (_ : K.In h) (mg : Str → Option Value) (C name qual : Str) (st : Stmt) (ps : List Str) : Prop := MDf K name qual st ps (KdC K mg C name)
abbrev MDfG (_ : K.In h) (mg : Str → Option Value) (C name qual : Str) (st : Stmt) (ps : List Str) : Prop := MDf K name qual st ps (KdG K mg C)
abbrev FldOf (_ : K.In h) (mg : Str → Option Value) (C f : Str) : Prop := FldC K mg C f
abbrev KeepOf (_ : K.In h) (mg : Str → Option Value) (C : Str) : Prop := ∃ Ca, mg C = some (.ref Ca) ∧ PySem.W.keepIn K (.ref Ca) = true
theorem keep_mk (X : K.In h) (G : h.Ns mainGlobals mg) (a : PySem.W.nsIn K mainGlobals C = some (some (.ref Ca))) (k : PySem.W.keepIn K (.ref Ca) = true) : KeepOf X mg C := ⟨Ca, PySem.W.mg_of X G a, k⟩
theorem fld_mk {fn : Str} (X : K.In h) (G : h.Ns mainGlobals mg) (a : PySem.W.nsIn K mainGlobals C = some (some (.ref Ca))) (pg : PySem.W.plainGet K Ca Str.empty = true) (hd : PySem.W.hasDictIn K Ca = true) (po : PySem.W.plainOver K Ca = true)
    (sa : PySem.W.findIn K (.ref Ca) "__setattr__" = some (some (.builtin "object.__setattr__"))) (na : PySem.W.findIn K (.ref Ca) fn = some none) : FldOf X mg C fn := ⟨Ca, PySem.W.mg_of X G a, ⟨pg, hd, po, sa⟩, na⟩
theorem mdfM_mk (X : K.In h) (G : h.Ns mainGlobals mg) (a : PySem.W.nsIn K mainGlobals C = some (some (.ref Ca))) (pg : PySem.W.plainGet K Ca Str.empty = true) (hd : PySem.W.hasDictIn K Ca = true) (po : PySem.W.plainOver K Ca = true)
    (sa : PySem.W.findIn K (.ref Ca) "__setattr__" = some (some (.builtin "object.__setattr__"))) (at_ : PySem.W.findIn K (.ref Ca) name = some (some (.ref f))) (fn : PySem.W.isFn K (.ref f) = true)
    (l : K.lookup f = some ⟨oc, od, .func (PySem.W.fnOf name qual (defArgs st) (defBody st) (defScope st) .none kV doc pm an cdv ct), osl⟩) (ci : PySem.W.codeIn K cdv qual = true) (k : PySem.W.keepIn K (.ref f) = true)
    (hb : ∀ (kV doc pm : Value) (an : Option Addr) (cdv ct : Value) (us : List Value), us.length = ps.length → bindArgs (PySem.W.fnOf name qual (defArgs st) (defBody st) (defScope st) .none kV doc pm an cdv ct) ⟨us, []⟩ = pure (ps.zip us)) : MDfM X mg C name qual st ps :=
  ⟨f, _, ⟨Ca, PySem.W.mg_of X G a, ⟨pg, hd, po, sa⟩, ⟨at_, fn, k⟩⟩, fun_mk l ci k, (fun_mk (st := st) l ci k).binds hb⟩
theorem mdfI_mk (X : K.In h) (G : h.Ns mainGlobals mg) (a : PySem.W.nsIn K mainGlobals C = some (some (.ref Ca))) (mk : PySem.W.makesIn K Ca = true) (at_ : PySem.W.findIn K (.ref Ca) "__init__" = some (some (.ref f))) (fn : PySem.W.isFn K (.ref f) = true) (kp : PySem.W.keepIn K (.ref Ca) = true)
    (l : K.lookup f = some ⟨oc, od, .func (PySem.W.fnOf name qual (defArgs st) (defBody st) (defScope st) .none kV doc pm an cdv ct), osl⟩) (ci : PySem.W.codeIn K cdv qual = true) (k : PySem.W.keepIn K (.ref f) = true)
    (hb : ∀ (kV doc pm : Value) (an : Option Addr) (cdv ct : Value) (us : List Value), us.length = ps.length → bindArgs (PySem.W.fnOf name qual (defArgs st) (defBody st) (defScope st) .none kV doc pm an cdv ct) ⟨us, []⟩ = pure (ps.zip us)) : MDfI X mg C name qual st ps :=
  ⟨f, _, ⟨Ca, PySem.W.mg_of X G a, ⟨mk, at_, fn, kp⟩⟩, fun_mk l ci k, (fun_mk (st := st) l ci k).binds hb⟩
theorem mdfP_mk (X : K.In h) (G : h.Ns mainGlobals mg) (a : PySem.W.nsIn K mainGlobals C = some (some (.ref Ca))) (pg : PySem.W.plainGet K Ca Str.empty = true) (hd : PySem.W.hasDictIn K Ca = true) (po : PySem.W.plainOver K Ca = true)
    (sa : PySem.W.findIn K (.ref Ca) "__setattr__" = some (some (.builtin "object.__setattr__"))) (at_ : PySem.W.findIn K (.ref Ca) name = some (some (.ref p))) (gt : PySem.W.specialIn K (.ref p) "__get__" = some (some (.builtin "property.__get__"))) (tk : PySem.W.takesIn K (.ref p) = some true)
    (rc : PySem.W.recIn K p "property" = some (.ref f :: rest))
    (l : K.lookup f = some ⟨oc, od, .func (PySem.W.fnOf name qual (defArgs st) (defBody st) (defScope st) .none kV doc pm an cdv ct), osl⟩) (ci : PySem.W.codeIn K cdv qual = true) (k : PySem.W.keepIn K (.ref f) = true)
    (hb : ∀ (kV doc pm : Value) (an : Option Addr) (cdv ct : Value) (us : List Value), us.length = ps.length → bindArgs (PySem.W.fnOf name qual (defArgs st) (defBody st) (defScope st) .none kV doc pm an cdv ct) ⟨us, []⟩ = pure (ps.zip us)) : MDfP X mg C name qual st ps :=
  ⟨f, _, ⟨Ca, p, PySem.W.mg_of X G a, ⟨pg, hd, po, sa⟩, ⟨at_, gt, tk, _, rc⟩⟩, fun_mk l ci k, (fun_mk (st := st) l ci k).binds hb⟩
theorem mdfC_mk (X : K.In h) (G : h.Ns mainGlobals mg) (a : PySem.W.nsIn K mainGlobals C = some (some (.ref Ca))) (rd : PySem.W.readsIn K Ca mc = true) (ga : PySem.W.specialIn K (.ref Ca) "__getattribute__" = some (some (.builtin "type.__getattribute__")))
    (at_ : PySem.W.findCls K (.ref Ca) mc name = some (.get (.builtin "classmethod.__get__") (.ref p) .none (.ref Ca))) (rc : PySem.W.recIn K p "classmethod" = some (.ref f :: rest)) (fi : PySem.W.fnIn K f = true)
    (l : K.lookup f = some ⟨oc, od, .func (PySem.W.fnOf name qual (defArgs st) (defBody st) (defScope st) .none kV doc pm an cdv ct), osl⟩) (ci : PySem.W.codeIn K cdv qual = true) (k : PySem.W.keepIn K (.ref f) = true)
    (hb : ∀ (kV doc pm : Value) (an : Option Addr) (cdv ct : Value) (us : List Value), us.length = ps.length → bindArgs (PySem.W.fnOf name qual (defArgs st) (defBody st) (defScope st) .none kV doc pm an cdv ct) ⟨us, []⟩ = pure (ps.zip us)) : MDfC X mg C name qual st ps :=
  ⟨f, _, ⟨Ca, mc, p, PySem.W.mg_of X G a, ⟨rd, ga⟩, ⟨at_, ⟨_, rc⟩, fi⟩⟩, fun_mk l ci k, (fun_mk (st := st) l ci k).binds hb⟩
theorem mdfG_mk (X : K.In h) (G : h.Ns mainGlobals mg) (a : PySem.W.nsIn K mainGlobals C = some (some (.ref Ca))) (at_ : PySem.W.findIn K (.ref Ca) "__getitem__" = some (some (.ref f))) (fi : PySem.W.fnIn K f = true) (fn : PySem.W.isFn K (.ref f) = true)
    (l : K.lookup f = some ⟨oc, od, .func (PySem.W.fnOf name qual (defArgs st) (defBody st) (defScope st) .none kV doc pm an cdv ct), osl⟩) (ci : PySem.W.codeIn K cdv qual = true) (k : PySem.W.keepIn K (.ref f) = true)
    (hb : ∀ (kV doc pm : Value) (an : Option Addr) (cdv ct : Value) (us : List Value), us.length = ps.length → bindArgs (PySem.W.fnOf name qual (defArgs st) (defBody st) (defScope st) .none kV doc pm an cdv ct) ⟨us, []⟩ = pure (ps.zip us)) : MDfG X mg C name qual st ps :=
  ⟨f, _, ⟨Ca, PySem.W.mg_of X G a, ⟨at_, fi, fn⟩⟩, fun_mk l ci k, (fun_mk (st := st) l ci k).binds hb⟩
end
end CM

/-! the pure layer: built-ins that only look at one thing of one's own -/
namespace CM
open PySem PySem.Spec PyProof.Rows L2
def pCB1 (f : List D → TEp) (tb : TBp) : TEp := fun ρ M E Q => tb ρ M E fun b ρ1 M1 => pOpt (b.get ρ1 M1) (fun c => f [c]) ρ1 M1 E Q
section
variable {W : WX} {X : Cx} {e : Expr} {tb : TBp}
theorem cb1_lift {K : PySem.W.Frag} {mg : Str → Option Value} {σ : L2.St} {H : Hp} {Q : VK} {f : List D → TEp} {r : RC} (hf : CaV K mg f r) (h : LE K mg W (pCB1 f tb) σ H Q) : tCB r (tCons (LB K mg W tb) tNil) σ H Q := by
  obtain ⟨w, e, B, ρ, Q0, E0, R, h, k, x⟩ := h
  refine ⟨w, e, B, ρ, _, E0, R, h, fun b ρ1 M1 q w1 v e1 k1 R1 acc => ?_, x⟩
  subst e1
  obtain ⟨c, hc, l⟩ := LW.opt (K := K) (mg := mg) (W := W) (σ := σ) (Q := Q) (w := w1) ⟨B, ρ1, Q0, E0, R1, q, fun d ρ3 M3 q3 w3 v3 e3 k3 R3 r3 => k d ρ3 M3 q3 w3 v3 e3 (k1.trans k3) R3 r3, x.ke k1⟩
  exact hf W w1 σ [v] [c] Q ⟨acc.get w1 ρ1 (Ke.refl _ _) R1 c hc, trivial⟩ l
theorem pp_callB1 {x : Str} {id : String} {f : List D → TEp} {r : RC} {p pos : Pos} (hc : CallR X (.builtin id) r) (hf : CaV X.K X.mg f r) (hg : Gl X x) (hm : X.mg x = none) (hv : bootBuiltins x = some (.builtin id)) (ha : PBp W X e tb) (hn : x ≠ "__name__" := by decide) (hd : (x == ("__debug__" : Str)) = false := by decide)
    (hs : starEach [e] X.env = (false, eval e X.env) :: starEach [] X.env := by rfl) (hp : (backTo pos (starEach [] X.env)).any (·.1) = false := by rfl) : PEp W X (.Call (.Name x p) [e] [] pos) (pCB1 f tb) := PE.imp (pe_callB hc hg hm hv (pa_cons ha pa_nil hs) hn hd hs hp) fun σ H Q h => cb1_lift hf h
end
section
variable {ρ : PSt} {M : PHp} {E : XP} {Q : QP} {f : List D → TEp} {tb : TBp} {b : Bs}
def kcb1 (f : List D → TEp) (E : XP) (Q : QP) : Bs → PSt → PHp → Prop := fun b ρ1 M1 => pOpt (b.get ρ1 M1) (fun c => f [c]) ρ1 M1 E Q
theorem u_lb1 : pCB1 f tb ρ M E Q = tb ρ M E (kcb1 f E Q) := rfl
theorem u_lb2 : kcb1 f E Q b ρ M = pOpt (b.get ρ M) (fun c => f [c]) ρ M E Q := rfl
end
end CM

/-! the pure layer: making with keywords; a new object with a dict of its own -/
namespace CM
open PySem PySem.Spec PyProof.Rows L2
theorem PK.imp {X : Cx} {e : List Keyword} {t t' : TA} (h : PK X e t) (hi : ∀ σ H Q, t' σ H Q → t σ H Q) : PK X e t' := ⟨fun pos pins s σ H Q I q => h.run pos pins s σ H Q I (hi _ _ _ q)⟩
abbrev PKp (W : WX) (X : Cx) (e : List Keyword) (t : TAp) : Prop := PK X e (LA X.K X.mg W t)
section
variable {W : WX} {X : Cx} {e : Expr} {kws : List Keyword} {t : TEp} {ta : TAp} {nm : Option Str} {kpos : Pos}
theorem pkp_nil : PKp W X [] pNil := PK.imp pk_nil fun σ H Q ⟨w, e, B, ρ, Q0, E0, R, h, k, x⟩ => e ▸ k _ ρ _ h w [] rfl (Ke.refl _ _) R .nil
theorem pkp_cons (h1 : PEp W X e t) (h2 : PKp W X kws ta) : PKp W X (⟨nm, e, kpos⟩ :: kws) (pCons t ta) := PK.imp (pk_cons h1 h2) fun σ H Q ⟨w, e, B, ρ, Q0, E0, R, h, k, x⟩ =>
  ⟨w, e, B, ρ, _, E0, R, h, fun a ρ1 M1 q w1 v e1 k1 R1 r1 => ⟨w1, rfl, B, ρ1, _, E0, R1, e1 ▸ q, fun ds ρ2 M2 q2 w2 vs e2 k2 R2 r2 => k _ ρ2 M2 q2 w2 (v :: vs) e2 (k1.trans k2) R2 (.cons (r1.ke k2) r2), x.ke k1⟩, x⟩
end
/-- what a call with keywords binds, told of values -/
def KBD (K : PySem.W.Frag) (mg : Str → Option Value) (fd : FuncData) (ps : List Str) (n : Nat) (ks : List Str) (gD : List D → List D → List D) : Prop :=
  ∃ (g : List Value → List Value → List Value) (gV : List V → List V → List V), KBn K fd ps n ks g gV ∧ ∀ (Z : Addr → Prop) (H : Hp) (vs zs : List V) (ds es : List D), Reps K mg Z H vs ds → Reps K mg Z H zs es → Reps K mg Z H (gV vs zs) (gD ds es)
structure MkF (P : Program) (w : World) (K : PySem.W.Frag) (mg : Str → Option Value) (base : Heap) (C : Str) (k n : Nat) (sp : SpP) (KB : FuncData → List Str → Prop) : Prop where
  ex : ∃ f fd ps Ca, mg C = some (.ref Ca) ∧ Mk K Ca f ∧ FnOk P w K mg base (L2.CX P w) k f fd ps (LSp K mg false n sp) ∧ KB fd ps
def tMkKS (C : Addr) (n m : Nat) (sp : Sp) (gV : List V → List V → List V) (E : XS) (t tk : TA) : TE := fun σ H Q => t σ H fun vs H1 => tk σ H1 fun zs H2 => vs.length = n ∧ zs.length = m ∧ ∀ x dx, H2 x = none → H2 dx = none → dx ≠ x →
  sp (gV (.ref x :: vs) zs) (upd (upd H2 dx (.own x)) x (.ins C dx [])) (fun v H3 => v = .non ∧ Q (.ref x) H3) (E σ)
section
variable {X : Cx} {k n : Nat} {f C : Addr} {fd : FuncData} {ps ks : List Str} {sp : Sp} {E : XS} {x : Str} {p pos : Pos} {e : Expr} {es : List Expr} {kws : List Keyword} {t tk : TA} {g : List Value → List Value → List Value} {gV : List V → List V → List V}
theorem run_mkKS {pins : List (Addr × Obj)} {σ : L2.St} {H : Hp} {s : Shared} {Q : VK} {us ws : List Value} {vs zs : List V} (M : Mk X.K C f) (F : FnOk X.prog X.w X.K X.mg X.base (L2.CX X.prog X.w) k f fd ps sp) (hr : Room (k + 1) X.A) (hb : KBn X.K fd ps (n + 1) ks g gV) (hx : PassesAt (L2.CX X.prog X.w) X σ (E σ))
    (I : Inv X pins σ H s) (r : Vals vs us) (rz : Vals zs ws) (l1 : vs.length = n) (l2 : zs.length = ks.length)
    (h : ∀ x dx, H x = none → H dx = none → dx ≠ x → sp (gV (.ref x :: vs) zs) (upd (upd H dx (.own x)) x (.ins C dx [])) (fun v H2 => v = .non ∧ Q (.ref x) H2) (E σ)) :
    wpAny (model X.prog X.w) X.A (call (.ref C) us (ks.zip ws)) (EP X pins σ Q) X.xe s := by
  have big := Nat.le_refl s.heap.objs.size
  have h0 := h (s.heap.objs.size + 1) s.heap.objs.size (I.hok.fresh (Nat.le_succ_of_le big)) (I.hok.fresh big) (Nat.ne_of_lt (Nat.lt_succ_self _))
  have J := Inv.made (C := C) I
  have r0 : Vals (V.ref (s.heap.objs.size + 1) :: vs) (Value.ref (s.heap.objs.size + 1) :: us) := .cons rfl r
  have rr := hb.rel r0 rz
  have n0 : (Value.ref (s.heap.objs.size + 1) :: us).length = n + 1 := by rw [List.length_cons, ← r.length, l1]
  have go := F.run _ X.stack _ _ ⟨Value.ref (s.heap.objs.size + 1) :: us, ks.zip ws⟩ (g (Value.ref (s.heap.objs.size + 1) :: us) ws) _ _ (E σ) (hr.make C us (ks.zip ws)) (J.env0.make C us (ks.zip ws)) (hb.to _ _ ws J.kIn n0 (rz.length.symm.trans l2)) rr h0
  refine wpAny_call (make_map (f := f) I.kIn M.makes M.init (beq_iff_eq.mp M.fn) (codeAny_mono go fun fl s2 q => ?_))
  rcases fl with er | fl
  · exact hx pins _ _ er s2 J q
  · cases fl with
    | ret u =>
      obtain ⟨v, G2, J2, rv, e2, q2⟩ := J.after q
      subst e2
      exact ⟨rv, .ref (s.heap.objs.size + 1), G2, J2, rfl, q2⟩
    | next => exact q.elim
    | brk => exact q.elim
    | cont => exact q.elim
theorem pe_mkKS (M : Mk X.K C f) (F : FnOk X.prog X.w X.K X.mg X.base (L2.CX X.prog X.w) k f fd ps sp) (hr : Room (k + 1) X.A) (hg : Gl X x) (hm : X.mg x = some (.ref C)) (hb : KBn X.K fd ps (n + 1) ks g gV) (hx : ∀ σ, PassesAt (L2.CX X.prog X.w) X σ (E σ)) (ha : PA X (e :: es) t) (hkw : PK X kws tk)
    (hall : (backToKw pos (keywordEach kws X.env)).all (·.1.isSome) = true) (hks : (backToKw pos (keywordEach kws X.env)).filterMap (·.1) = ks) (hdb : (x == ("__debug__" : Str)) = false)
    (he : starEach (e :: es) X.env = (false, eval e X.env) :: starEach es X.env) (hpl : ((backTo pos (starEach (e :: es) X.env)).any (·.1) || (backToKw pos (keywordEach kws X.env)).any (·.1.isNone)) = false) :
    PE X (.Call (.Name x p) (e :: es) kws pos) (tMkKS C n ks.length sp gV E t tk) := by
  constructor
  intro pins s σ H Q I h
  refine wpAny_Call_Name_kw (ld_glob I hg hm ?_ hdb)
  refine PySem.W.callWith_KW (h₀ := X.base) I.ok.mod.kin M.kp hall (thn (ha.run pos pins s σ H _ I h) fun us s1 ⟨vs, H1, I1, r, q⟩ => ?_) hpl he
  refine thn (hkw.run pos pins s1 σ H1 _ I1 q) fun ws s2 ⟨zs, H2, I2, rz, l1, l2, q2⟩ => ⟨I2.kIn, ?_⟩
  rw [hks]
  exact run_mkKS M F hr hb (hx σ) I2 r rz l1 l2 q2
end
/-- the end of a making: the object is frozen, and one dict (or list) of its own with it -/
def MkEnd (C : Str) (x : Addr) (M0 M3 : PHp) (Q : D → PHp → Prop) : Prop :=
  (∃ c, M3 x = some c ∧ Q c (delM M3 x)) ∨ ∃ pre f y e post, M3 x = some (.obj C (pre ++ (f, .ref y) :: post)) ∧ M0 y = none ∧ y ≠ x ∧ M3 y = some e ∧ Q (.obj C (pre ++ (f, e) :: post)) (delM (delM M3 x) y)
def pMkK (C : Str) (N n m : Nat) (gD : List D → List D → List D) (sp : SpP) (ta tk : TAp) : TEp := fun ρ M E Q => ta ρ M E fun ds ρ1 M1 => tk ρ1 M1 E fun es ρ2 M2 => ds.length = n ∧ es.length = m ∧ ∀ x, M2 x = none →
  (gD (.ref x :: ds) es).length = N ∧ sp (gD (.ref x :: ds) es) (updM M2 x (.obj C [])) (fun c g M3 => E c g ρ2 (delM M3 x)) fun d M3 => d = .non ∧ MkEnd C x M2 M3 fun c M4 => Q c ρ2 M4
theorem reps_swap {K : PySem.W.Frag} {mg : Str → Option Value} {Z : Addr → Prop} {H : Hp} {y : Addr} {e : D} {bs : List D} (re : Rep K mg Z H (.ref y) e) : ∀ {as : List D} {vs : List V}, Reps K mg Z H vs (as ++ .ref y :: bs) → Reps K mg Z H vs (as ++ e :: bs)
  | [], _, .cons r t => by
    cases r
    exact .cons re t
  | _ :: _, _, .cons r t => .cons r (reps_swap re t)
section
variable {K : PySem.W.Frag} {mg : Str → Option Value} {W : WX} {σ : L2.St} {H : Hp} {Q : VK} {N n m : Nat} {sp : SpP} {ta tk : TAp} {C : Str} {Ca : Addr} {gV : List V → List V → List V} {gD : List D → List D → List D}
theorem mkK_lift (hC : mg C = some (.ref Ca)) (rel : ∀ (Z : Addr → Prop) (H : Hp) (vs zs : List V) (ds es : List D), Reps K mg Z H vs ds → Reps K mg Z H zs es → Reps K mg Z H (gV vs zs) (gD ds es)) (h : LE K mg W (pMkK C N n m gD sp ta tk) σ H Q) :
    tMkKS Ca n m (LSp K mg false N sp) gV (WE W) (LA K mg W ta) (LA K mg W tk) σ H Q := by
  obtain ⟨w, e, B, ρ, Q0, E0, R, h, kk, xx⟩ := h
  refine ⟨w, e, B, ρ, _, E0, R, h, fun ds ρ1 M1 q w1 vs e1 k1 R1 r1 => ?_, xx⟩
  subst e1
  refine ⟨w1, rfl, B, ρ1, _, E0, R1, q, fun es ρ2 M2 ⟨hl, hl2, q⟩ w2 zs e2 k2 R2 r2 => ?_, xx.ke k1⟩
  subst e2
  refine ⟨by rw [r1.len]; exact hl, by rw [r2.len]; exact hl2, fun x dx hx hdx ne => ?_⟩
  obtain ⟨hN, q⟩ := q x (R2.ok.mNone hx)
  have le1 : Le w2 (w2.mk1 C Ca x dx) := mk1_le hx hdx
  have ok1 := mk1_ok R2.ok hC hx hdx ne
  have k12 := k1.trans k2
  have ra := rel _ _ _ _ _ _ (.cons (.ref x) ((r1.ke k2).ke (le1.ke R2.ok))) (r2.ke (le1.ke R2.ok))
  refine ⟨by rw [ra.len]; exact hN, w2.mk1 C Ca x dx, rfl, _, _, _, ok1, ra, q, fun d M' ⟨ed, q2⟩ w' v e' ok' le' rs => ?_, fun c g M' q2 w' cls dx2 e' ok' le' xr => ?_⟩
  · subst ed e'
    have hv : v = .non := by
      unfold ResC at rs
      rw [if_neg (by simp [isCell])] at rs
      cases rs
      rfl
    refine ⟨hv, ?_⟩
    have le2 : Le w2 (w'.del x) := del_le (le1.trans le')
    rcases q2 with ⟨c, hc, q2⟩ | ⟨pre, f, y, e, post, hc, hy0, hyx, hy, q2⟩
    · obtain ⟨nz, ca⟩ := ok'.cells x c hc
      obtain ⟨u, hu, _⟩ := ca.some
      have ok3 := Wd.frz_ok (p := x) (del_ok (x := x) ok') delM_same (by show w'.H x ≠ none; rw [hu]; exact fun z => by cases z)
      have le3 := Wd.frz_le (p := x) le2 hx
      exact kk c ρ2 _ q2 ((w'.del x).frz x) (.ref x) rfl (k12.trans (le3.ke R2.ok)) (R2.call le3 ok3) ((ca.ke ((w'.del x).frz_ke x) rfl).rep (.inr rfl))
    · obtain ⟨nz, ca⟩ := ok'.cells x _ hc
      obtain ⟨nzy, cy⟩ := ok'.cells y e hy
      obtain ⟨u, hu, _⟩ := ca.some
      obtain ⟨u2, hu2, _⟩ := cy.some
      have ny : w2.H y = none := by
        rcases le'.newc y e hy with z | z
        · exact absurd (show updM w2.M x (.obj C []) y = none by rw [updM_ne hyx]; exact hy0) z
        · cases e5 : w2.H y with
          | none => rfl
          | some o =>
            have z : upd (upd w2.H dx (.own x)) x (.ins Ca dx []) y = none := z
            rw [mk1_at hx hdx e5] at z
            cases z
      have ok3 := Wd.frz_ok (p := x) (del_ok (x := x) ok') delM_same (by show w'.H x ≠ none; rw [hu]; exact fun z => by cases z)
      have le3 := Wd.frz_le (p := x) le2 hx
      have ok4 := Wd.frz_ok (p := y) (del_ok (x := y) ok3) delM_same (by show w'.H y ≠ none; rw [hu2]; exact fun z => by cases z)
      have le4 := Wd.frz_le (p := y) (del_le (x := y) le3) ny
      have ke1 : w'.ke ((((w'.del x).frz x).del y).frz y) := ⟨fun _ h => .inl (.inl h), fun _ _ _ h => h, fun _ _ _ h _ => h, fun _ _ _ _ _ h => h, fun _ _ h => h, fun _ _ h => h, fun _ _ _ h => h, fun _ _ h => h, fun _ _ _ h => h⟩
      have ry : Rep K mg ((((w'.del x).frz x).del y).frz y).Z ((((w'.del x).frz x).del y).frz y).H (.ref y) e := (cy.ke ke1 rfl).rep (.inr rfl)
      have ca2 : CellAt K mg ((((w'.del x).frz x).del y).frz y).Z ((((w'.del x).frz x).del y).frz y).H x (.obj C (pre ++ (f, e) :: post)) := by
        obtain ⟨Ca', dx', fvs, m1, m2, m3, m4⟩ := ca.ke ke1 rfl
        refine ⟨Ca', dx', fvs, m1, m2, ?_, ?_⟩
        · rw [m3]
          simp
        · rw [List.map_append, List.map_cons] at m4 ⊢
          exact reps_swap ry m4
      exact kk _ ρ2 _ q2 ((((w'.del x).frz x).del y).frz y) (.ref x) rfl (k12.trans (le4.ke R2.ok)) (R2.call le4 ok4) (ca2.rep (.inl (.inr rfl)))
  · subst e'
    have le2 : Le w2 (w'.del x) := del_le (le1.trans le')
    exact xx c g ρ2 _ q2 (w'.del x) cls dx2 rfl (k12.trans (le2.ke R2.ok)) (R2.call le2 (del_ok ok')) xr
end
section
variable {W : WX} {X : Cx} {C : Str} {k N n : Nat} {sp : SpP} {KB : FuncData → List Str → Prop} {gD : List D → List D → List D} {e : Expr} {es : List Expr} {kws : List Keyword} {ta tkw : TAp} {p pos : Pos} {ks : List Str}
theorem pp_mkK (tk : Takes X W) (F : MkF X.prog X.w X.K X.mg X.base C k N sp KB) (hKB : ∀ fd ps, KB fd ps → KBD X.K X.mg fd ps (n + 1) ks gD) (hr : Room (k + 1) X.A) (hg : Gl X C) (ha : PAp W X (e :: es) ta) (hkw : PKp W X kws tkw)
    (hall : (backToKw pos (keywordEach kws X.env)).all (·.1.isSome) = true := by rfl) (hks : (backToKw pos (keywordEach kws X.env)).filterMap (·.1) = ks := by rfl) (hdb : (C == ("__debug__" : Str)) = false := by decide)
    (he : starEach (e :: es) X.env = (false, eval e X.env) :: starEach es X.env := by rfl) (hpl : ((backTo pos (starEach (e :: es) X.env)).any (·.1) || (backToKw pos (keywordEach kws X.env)).any (·.1.isNone)) = false := by rfl) :
    PEp W X (.Call (.Name C p) (e :: es) kws pos) (pMkK C N n ks.length gD sp ta tkw) := by
  obtain ⟨f, fd, ps, Ca, h1, M, G, b⟩ := F.ex
  obtain ⟨g, gV, hb, rel⟩ := hKB fd ps b
  exact PE.imp (pe_mkKS M G hr hg h1 hb (passAt tk) ha hkw hall hks hdb he hpl) fun σ H Q h => mkK_lift h1 rel h
end
end CM

/-! the pure layer: o(..) with a __call__ of one's own; an __init__ with defaults, for the head -/
namespace CM
open PySem PySem.Spec PyProof.Rows L2
structure CallI (K : PySem.W.Frag) (C f : Addr) : Prop where
  own : PySem.W.findIn K (.ref C) "__call__" = some (some (.ref f))
  isf : PySem.W.fnIn K f = true
  fun_ : PySem.W.isFn K (.ref f) = true
section
variable {M : Model} {A : Around} {E : Value → Shared → Prop} {s : Shared} {env : Env} {pos : Pos} {x C : Addr} {ox : Obj} {Q : Value → Shared → Prop}
theorem inst_args {e : Expr} {rest : List Expr} (plain_ : ox.data = .plain) (run : wpAny M A (spliced (backTo pos (starEach (e :: rest) env))) (fun vs t => (∃ od, PySem.W.InstAt t.heap x ox C od) ∧ wpAny M A (call (.ref x) vs) Q E t) E s)
    (first_ : starEach (e :: rest) env = (false, eval e env) :: starEach rest env) (none_ : (backTo pos (starEach rest env)).any (·.1) = false) : wpAny M A (callWith pos (.ref x) [] (backTo pos (starEach (e :: rest) env)) []) Q E s := by
  rw [first_] at run ⊢
  have np : (((backTo pos ((false, eval e env) :: starEach rest env)).any (·.1)) || ([] : List (Option Str × Sem Value)).any (·.1.isNone)) = false := by
    show ((false || (backTo pos (starEach rest env)).any (·.1)) || false) = false
    rw [none_]
    rfl
  have run2 := PySem.Calls.evalArgs_plain (f := .ref x) (Q := fun a t => (∃ od, PySem.W.InstAt t.heap x ox C od) ∧ wpAny M A (call (.ref x) ([] ++ a.pos) a.kw) Q E t) run
  unfold callWith
  refine wpAny_bind (wpAny_holding (wpAny_mono run2 (fun got t step => wpAny_bind (wpAny_standAt ?_)) fun _ _ z => z))
  obtain ⟨⟨od, here⟩, go⟩ := step
  simp only [np]
  refine wpAny_bind ((PySem.W.kco_keeper (M := M) here plain_).here ?_)
  exact wpAny_bind (wpAny_mono (wpAny_operateT go) (fun r t2 back => wpAny_bind (wpAny_holding (wpAny_point (wpAny_pure back)))) fun _ _ z => z)
end
def tCallOS (C : Addr) (sp : Sp) (E : XS) (tf : TE) (t : TA) : TE := fun σ H Q => tf σ H fun v H1 => ∃ a dx fs, v = .ref a ∧ H1 a = some (.ins C dx fs) ∧ t σ H1 fun vs H2 => H2 a = some (.ins C dx fs) ∧ sp (.ref a :: vs) H2 Q (E σ)
section
variable {X : Cx} {k : Nat} {C f : Addr} {sp : Sp} {E : XS} {fe e : Expr} {es : List Expr} {pos : Pos} {tf : TE} {t : TA}
theorem pe_callOS (hf : PE X fe tf) (g : CallI X.K C f) (F : FnM X.prog X.w X.K X.mg X.base k f sp) (hr : Room k X.A) (hx : ∀ σ, PassesAt (L2.CX X.prog X.w) X σ (E σ)) (ha : PA X (e :: es) t)
    (hc : eval (.Call fe (e :: es) [] pos) X.env = (do callWith pos (← eval fe X.env) [] (backTo pos (starEach (e :: es) X.env)) (backToKw pos (keywordEach [] X.env))))
    (he : starEach (e :: es) X.env = (false, eval e X.env) :: starEach es X.env) (hpl : (backTo pos (starEach es X.env)).any (·.1) = false) : PE X (.Call fe (e :: es) [] pos) (tCallOS C sp E tf t) := by
  refine ⟨fun pins s σ H Q I h => ?_⟩
  refine Call_ (thn (hf.run pins s σ H _ I h) fun u s1 ⟨v, H1, I1, r1, a, dx, fs, ev, ea, q1⟩ => ?_) hc
  subst ev
  cases (show u = Value.ref a from r1)
  refine inst_args (ox := PySem.W.instObj C dx) (C := C) rfl (thn (ha.run pos pins s1 σ H1 _ I1 q1) fun us s2 ⟨vs, H2, I2, r, ea2, q⟩ => ?_) he hpl
  obtain ⟨mA, O, _⟩ := ins_get I2.hok ea2
  obtain ⟨od, J, _⟩ := O.look
  refine ⟨⟨_, J⟩, wpAny_call (PySem.W.kco_code I2.kIn J rfl g.own g.fun_ g.isf (F.code hr (hx σ) I2 (us := .ref a :: us) (vs := .ref a :: vs) (.cons rfl r) q))⟩
end
def KdQ (K : PySem.W.Frag) (mg : Str → Option Value) (C : Str) : Addr → Prop := fun f => ∃ Ca, mg C = some (.ref Ca) ∧ CallI K Ca f
def pCallOb (C : Str) (n : Nat) (sp : SpP) (t : TEp) (ta : TAp) : TEp := fun ρ M E Q => t ρ M E fun x ρ1 M1 => (∃ fs, x = .obj C fs) ∧ ta ρ1 M1 E fun ds ρ2 M2 => ds.length + 1 = n ∧ sp (x :: ds) M2 (kXC E ρ2) (kQC Q ρ2)
/-! ### the head of an __init__ with defaults -/
structure KDf (K : PySem.W.Frag) (mg : Str → Option Value) (C qual : Str) (st : Stmt) (kws : List (Str × V)) : Prop where
  ex : ∃ f fd Ca dv, mg C = some (.ref Ca) ∧ Mk K Ca f ∧ FunD K "__init__" qual (defArgs st) (defBody st) (defScope st) [dv] kws f fd
section
variable {P : Program} {w : World} {K : PySem.W.Frag} {mg : Str → Option Value} {base : Heap}
theorem KDf.ok {C qual : Str} {st : Stmt} {kws : List (Str × V)} {N ps : List Str} {k : Nat} {sp : SpP} {KB : FuncData → List Str → Prop} (Dd : KDf K mg C qual st kws) (S : FnScope N ps (defScope st))
    (hKB : ∀ f fd dv, FunD K "__init__" qual (defArgs st) (defBody st) (defScope st) [dv] kws f fd → KB fd ps)
    (hbody : ∀ (f : Addr) (cdv : Value) (A : Around) (outer : List Env) (s : Shared) (H : Hp) (E : XK), Room k (A.deeper (envOfC qual (defScope st) s.heap.objs.size f cdv)) → Takes (cxOf (L2.CX P w) P w K mg base N qual (defScope st) f cdv A outer s H E) (fun cls d _ H => E cls d H) →
      PassesOwn (model P w) (cxOf (L2.CX P w) P w K mg base N qual (defScope st) f cdv A outer s H E).A (cxOf (L2.CX P w) P w K mg base N qual (defScope st) f cdv A outer s H E).env (cxOf (L2.CX P w) P w K mg base N qual (defScope st) f cdv A outer s H E).xe →
      ∃ t, PSsp (fun cls d _ H => E cls d H) false (cxOf (L2.CX P w) P w K mg base N qual (defScope st) f cdv A outer s H E) (defBody st) t ∧ ∀ ds M (E0 : XC) (Q0 : D → PHp → Prop), ds.length = ps.length → sp ds M E0 Q0 → t (fnX E0) (endsK Q0) (startP N ds) M) : MkF P w K mg base C (k + 1) ps.length sp KB := by
  obtain ⟨f, fd, Ca, dv, h1, h2, F⟩ := Dd.ex
  refine ⟨f, fd, ps, Ca, h1, h2, F.ok S (fun vs H Q E h => h.1) (fun cdv A outer s H vs Q E hr h => ?_), hKB f fd dv F⟩
  obtain ⟨t, ht, hq⟩ := hbody f cdv A outer s H E hr (takes_of rfl rfl rfl rfl) (passes_of rfl)
  exact ⟨_, ht, ls_start h hq⟩
end
end CM

/-! the pure layer: o(..), methods and properties that hand over what is new -/
namespace CM
open PySem PySem.Spec PyProof.Rows L2
def pMthO (C m : Str) (n : Nat) (sp : SpP) (t : TEp) (ta : TAp) : TEp := fun ρ M E Q => t ρ M E fun x ρ1 M1 => (∃ fs, cn M1 x = .obj C fs ∧ fs.lookup m = none) ∧ ta ρ1 M1 E fun ds ρ2 M2 => ds.length + 1 = n ∧ sp (x :: ds) M2 (kXC E ρ2) (kQO Q ρ2)
def pPrpO (C : Str) (sp : SpP) (t : TEp) : TEp := fun ρ M E Q => t ρ M E fun x ρ1 M1 => (∃ fs, cn M1 x = .obj C fs) ∧ sp [x] M1 (fun _ _ _ => False) (kQO Q ρ1)
section
variable {W : WX} {X : Cx} {C mn : Str} {k n : Nat} {m : Bool} {sp : SpP} {o fe e : Expr} {es : List Expr} {t : TEp} {ta : TAp} {pos apos : Pos}
theorem pp_callO (tk : Takes X W) (F : MtF X.prog X.w X.K X.mg X.base (KdQ X.K X.mg C) k n m sp) (hr : Room k X.A) (hf : PEp W X fe t) (ha : PAp W X (e :: es) ta)
    (hc : eval (.Call fe (e :: es) [] pos) X.env = (do callWith pos (← eval fe X.env) [] (backTo pos (starEach (e :: es) X.env)) (backToKw pos (keywordEach [] X.env))) := by rfl)
    (he : starEach (e :: es) X.env = (false, eval e X.env) :: starEach es X.env := by rfl) (hpl : (backTo pos (starEach es X.env)).any (·.1) = false := by rfl) : PEp W X (.Call fe (e :: es) [] pos) (pCallOb C n sp t ta) := by
  obtain ⟨f, ⟨Ca, h1, g⟩, G⟩ := F.ex
  refine PE.imp (pe_callOS hf g G hr (passAt tk) ha hc he hpl) fun σ H Q ⟨w, e, B, ρ, Q0, E0, R, h, kk, xx⟩ => ⟨w, e, B, ρ, _, E0, R, h, fun x ρ1 M1 ⟨⟨fs, ex⟩, q⟩ w1 v e1 k1 R1 r1 => ?_, xx⟩
  subst ex e1
  cases id r1 with
  | obj z m1 m2 m3 m4 =>
    rw [h1] at m1
    cases m1
    refine ⟨_, _, _, rfl, m2, w1, rfl, B, ρ1, _, E0, R1, q, fun ds ρ2 M2 ⟨hn, q2⟩ w2 vs e2 k2 R2 r2 => ?_, xx.ke k1⟩
    subst e2
    exact ⟨k2.ins _ _ _ _ z m2, LSp.call (by rw [List.length_cons, r2.len]; exact hn) R2 (.cons (r1.ke k2) r2) q2 (fun d ρ' M' q' w' v e' k' => kk d ρ' M' q' w' v e' ((k1.trans k2).trans k')) (xx.ke (k1.trans k2))⟩
theorem po_mth {pl : Sem Bool} (tk : Takes X W) (F : MtF X.prog X.w X.K X.mg X.base (KdM X.K X.mg C mn) k n true sp) (hr : Room k X.A) (ho : PEp W X o t) (ha : PAp W X (e :: es) ta)
    (hst : starEach (e :: es) X.env = (false, eval e X.env) :: starEach es X.env := by rfl) (hpl : (backTo pos (starEach es X.env)).any (·.1) = false := by rfl)
    (ht : eval (.Call (.Attribute o mn apos) (e :: es) [] pos) X.env = (do let ov ← eval o X.env; standAt apos.atName; let (f, first) ← holding [ov] (getMethod ov mn pl); callWith pos f first (backTo pos (starEach (e :: es) X.env)) (backToKw pos (keywordEach [] X.env))) := by rfl) :
    PEo W X (.Call (.Attribute o mn apos) (e :: es) [] pos) (pMthO C mn n sp t ta) := by
  obtain ⟨f, ⟨Ca, h1, c, M⟩, G⟩ := F.ex
  refine PE.imp (pe_mthS ho c M G hr (passAt tk) ha hst hpl ht) fun σ H Q ⟨w, e, B, ρ, Q0, E0, R, h, kk, xx⟩ => ⟨w, e, B, ρ, _, E0, R, h, fun x ρ1 M1 ⟨⟨fs, hx, hl⟩, q⟩ w1 v e1 k1 R1 r1 => ?_, xx⟩
  subst e1
  have vw := r1.view R1.ok
  rw [hx] at vw
  obtain ⟨a, Cb, dx, fvs, rfl, g1, g2, g3, g4⟩ := vw
  rw [h1] at g1
  cases g1
  refine ⟨a, dx, fvs, rfl, g2, names_lookup g3 hl, w1, rfl, B, ρ1, _, E0, R1, q, fun ds ρ2 M2 ⟨hn, q2⟩ w2 vs e2 k2 R2 r2 => ?_, xx.ke k1⟩
  subst e2
  exact LSp.callO (by rw [List.length_cons, r2.len]; exact hn) R2 (.cons (r1.ke k2) r2) q2 (fun d ρ' M' q' w' v e' k' => kk d ρ' M' q' w' v e' ((k1.trans k2).trans k')) (xx.ke (k1.trans k2))
theorem po_mth0 {pl : Sem Bool} (tk : Takes X W) (F : MtF X.prog X.w X.K X.mg X.base (KdM X.K X.mg C mn) k n true sp) (hr : Room k X.A) (ho : PEp W X o t)
    (ht : eval (.Call (.Attribute o mn apos) [] [] pos) X.env = (do let ov ← eval o X.env; standAt apos.atName; let (f, first) ← holding [ov] (getMethod ov mn pl); callWith pos f first (backTo pos (starEach [] X.env)) (backToKw pos (keywordEach [] X.env))) := by rfl) :
    PEo W X (.Call (.Attribute o mn apos) [] [] pos) (pMthO C mn n sp t pNil) := by
  obtain ⟨f, ⟨Ca, h1, c, M⟩, G⟩ := F.ex
  refine PE.imp (pe_mth0S ho c M G hr (passAt tk) ht) fun σ H Q ⟨w, e, B, ρ, Q0, E0, R, h, kk, xx⟩ => ⟨w, e, B, ρ, _, E0, R, h, fun x ρ1 M1 ⟨⟨fs, hx, hl⟩, hn, q⟩ w1 v e1 k1 R1 r1 => ?_, xx⟩
  subst e1
  have vw := r1.view R1.ok
  rw [hx] at vw
  obtain ⟨a, Cb, dx, fvs, rfl, g1, g2, g3, g4⟩ := vw
  rw [h1] at g1
  cases g1
  exact ⟨a, dx, fvs, rfl, g2, names_lookup g3 hl, LSp.callO (vs := [V.ref a]) hn R1 (.one r1) q (fun d ρ' M' q' w' v e' k' => kk d ρ' M' q' w' v e' (k1.trans k')) (xx.ke k1)⟩
theorem po_prp {f : Str} (F : MtF X.prog X.w X.K X.mg X.base (KdP X.K X.mg C f) k 1 true sp) (hr : Room (k + 1) X.A) (ho : PEp W X o t) (hab : attributeBase o f X.env (eval o X.env) = eval o X.env := by rfl) : PEo W X (.Attribute o f pos) (pPrpO C sp t) := by
  obtain ⟨g, ⟨Ca, pr, h1, c, M⟩, G⟩ := F.ex
  obtain ⟨fd, ps, G, b⟩ := G.ex
  refine PE.imp (pe_prop (E := E0) ho c M G hr b .nil (passes_call (W := fun _ _ _ _ => False) takes_none5 fun _ _ _ _ z => z) hab) fun σ H Q ⟨w, e, B, ρ, Q0, E1, R, h, kk, xx⟩ => ⟨w, e, B, ρ, _, E1, R, h, fun x ρ1 M1 ⟨⟨fs, hx⟩, q⟩ w1 v e1 k1 R1 r1 => ?_, xx⟩
  subst e1
  have vw := r1.view R1.ok
  rw [hx] at vw
  obtain ⟨a, Cb, dx, fvs, rfl, g1, g2, g3, g4⟩ := vw
  rw [h1] at g1
  cases g1
  refine ⟨a, dx, fvs, rfl, g2, ?_⟩
  have z := LSp.callO (W := fun _ _ _ _ => False) (E0 := fun _ _ _ _ => False) (vs := [V.ref a]) (n := 1) rfl R1 (.one r1) q (fun d ρ' M' q' w' v e' k' => kk d ρ' M' q' w' v e' (k1.trans k')) (fun _ _ _ _ z => z.elim)
  exact z
end
/-! ### the readings, applied -/
section
variable {ρ : PSt} {M : PHp} {E : XP} {Q : QP} {t : TEp} {ta tkw : TAp} {sp : SpP} {C : Str} {mn : Str} {n N m : Nat} {d : D} {xs ys : List D} {fs : List (Str × D)} {x : Addr} {gD : List D → List D → List D}
def kmthO2 (x : D) (n : Nat) (sp : SpP) (E : XP) (Q : QP) : List D → PSt → PHp → Prop := fun ds ρ2 M2 => ds.length + 1 = n ∧ sp (x :: ds) M2 (kXC E ρ2) (kQO Q ρ2)
def kmthO1 (C mn : Str) (n : Nat) (sp : SpP) (ta : TAp) (E : XP) (Q : QP) : QP := fun x ρ1 M1 => mthC C mn (cn M1 x) ∧ ta ρ1 M1 E (kmthO2 x n sp E Q)
theorem u_mthO : pMthO C mn n sp t ta ρ M E Q = t ρ M E (kmthO1 C mn n sp ta E Q) := rfl
theorem u_mthO1 : kmthO1 C mn n sp ta E Q d ρ M = (mthC C mn (cn M d) ∧ ta ρ M E (kmthO2 d n sp E Q)) := rfl
theorem u_mthO2 : kmthO2 d n sp E Q xs ρ M = (xs.length + 1 = n ∧ sp (d :: xs) M (kXC E ρ) (kQO Q ρ)) := rfl
def kprpO (C : Str) (sp : SpP) (Q : QP) : QP := fun x ρ1 M1 => isC C (cn M1 x) ∧ sp [x] M1 (fun _ _ _ => False) (kQO Q ρ1)
theorem u_prpO : pPrpO C sp t ρ M E Q = t ρ M E (kprpO C sp Q) := rfl
theorem u_prpO1 : kprpO C sp Q d ρ M = (isC C (cn M d) ∧ sp [d] M (fun _ _ _ => False) (kQO Q ρ)) := rfl
def kco2 (x : D) (n : Nat) (sp : SpP) (E : XP) (Q : QP) : List D → PSt → PHp → Prop := fun ds ρ2 M2 => ds.length + 1 = n ∧ sp (x :: ds) M2 (kXC E ρ2) (kQC Q ρ2)
def kco1 (C : Str) (n : Nat) (sp : SpP) (ta : TAp) (E : XP) (Q : QP) : QP := fun x ρ1 M1 => isC C x ∧ ta ρ1 M1 E (kco2 x n sp E Q)
theorem u_co : pCallOb C n sp t ta ρ M E Q = t ρ M E (kco1 C n sp ta E Q) := rfl
theorem u_co1 : kco1 C n sp ta E Q d ρ M = (isC C d ∧ ta ρ M E (kco2 d n sp E Q)) := rfl
theorem u_co2 : kco2 d n sp E Q xs ρ M = (xs.length + 1 = n ∧ sp (d :: xs) M (kXC E ρ) (kQC Q ρ)) := rfl
def mkKQ (C : Str) (Q : QP) (ρ : PSt) (x : Addr) (M0 : PHp) : D → PHp → Prop := fun d M3 => d = .non ∧ MkEnd C x M0 M3 fun c M4 => Q c ρ M4
def kmkK2 (C : Str) (N n m : Nat) (gD : List D → List D → List D) (sp : SpP) (ds : List D) (E : XP) (Q : QP) : List D → PSt → PHp → Prop := fun es ρ2 M2 => ds.length = n ∧ es.length = m ∧ ∀ x, M2 x = none →
  (gD (.ref x :: ds) es).length = N ∧ sp (gD (.ref x :: ds) es) (updM M2 x (.obj C [])) (mkX E ρ2 x) (mkKQ C Q ρ2 x M2)
def kmkK1 (C : Str) (N n m : Nat) (gD : List D → List D → List D) (sp : SpP) (tkw : TAp) (E : XP) (Q : QP) : List D → PSt → PHp → Prop := fun ds ρ1 M1 => tkw ρ1 M1 E (kmkK2 C N n m gD sp ds E Q)
theorem u_mkK : pMkK C N n m gD sp ta tkw ρ M E Q = ta ρ M E (kmkK1 C N n m gD sp tkw E Q) := rfl
theorem u_mkK1 : kmkK1 C N n m gD sp tkw E Q xs ρ M = tkw ρ M E (kmkK2 C N n m gD sp xs E Q) := rfl
theorem u_mkK2 : kmkK2 C N n m gD sp xs E Q ys ρ M = (xs.length = n ∧ ys.length = m ∧ ∀ x, M x = none → (gD (.ref x :: xs) ys).length = N ∧ sp (gD (.ref x :: xs) ys) (updM M x (.obj C [])) (mkX E ρ x) (mkKQ C Q ρ x M)) := rfl
end
end CM

/-! the pure layer: dicts whose keys are rows of whole numbers -/
namespace CM
open PySem PySem.Spec PyProof.Rows L2
abbrev KI (ns : List Int) : List Key := ns.map Sum.inl
def lookT (kvs : List (List Key × D)) (k : List Key) : Option D := (kvs.find? fun kv => decide (kv.1 = k)).map (·.2)
def putT (kvs : List (List Key × D)) (k : List Key) (d : D) : List (List Key × D) := if (kvs.any fun kv => decide (kv.1 = k)) = true then kvs.map fun kv => if kv.1 = k then (kv.1, d) else kv else kvs ++ [(k, d)]
/-- the key that a tuple is -/
def keyT : D → Option (List Key)
  | .tup ds => (dInts ds).bind fun ns => if ns = [] then none else some (KI ns)
  | _ => none
def dgetD : D → D → TEp
  | .dT kvs, y => pOpt (keyT y) fun k => pOpt (lookT kvs k) pRet
  | _, _ => pNo
def dinD (neg : Bool) : D → D → TEp
  | .dT kvs, y => pOpt (keyT y) fun k => pRet (.bl (xor neg (lookT kvs k).isSome))
  | _, _ => pNo
section
variable {K : PySem.W.Frag} {mg : Str → Option Value} {Z : Addr → Prop} {H : Hp} {w : Wd}
theorem kI_V (ns : List Int) : (KI ns).map kV = ns.map V.int := by rw [List.map_map]; rfl
theorem key_at {y : V} {d : D} {k : List Key} (v : View K mg w y d) (h : keyT d = some k) : ∃ b, y = .ref b ∧ w.H b = some (.tup (k.map kV)) := by
  unfold keyT at h
  split at h
  · rename_i ds
    cases e : dInts ds with
    | none =>
      rw [e] at h
      cases h
    | some ns =>
      rw [e] at h
      have h : (if ns = [] then none else some (KI ns)) = some k := h
      by_cases hn : ns = []
      · rw [if_pos hn] at h
        cases h
      · rw [if_neg hn] at h
        cases h
        obtain ⟨b, vs, rfl, hb, r⟩ := v
        have hv := reps_ints r e
        subst hv
        rw [kI_V]
        rcases hb with hb | ⟨_, z | ⟨v, hm, hv, _⟩⟩
        · exact ⟨b, rfl, hb⟩
        · exact absurd (List.map_eq_nil_iff.mp z) hn
        · obtain ⟨i, _, rfl⟩ := List.mem_map.mp hm
          exact absurd rfl (hv i)
  · cases h
theorem look_val : ∀ {kvs : List (List Key × V)} {ds : List (List Key × D)} (k : List Key), kvs.map (·.1) = ds.map (·.1) → Reps K mg Z H (kvs.map (·.2)) (ds.map (·.2)) → (lookT ds k = none ∧ valV kvs k = none) ∨ ∃ d v, lookT ds k = some d ∧ valV kvs k = some v ∧ Rep K mg Z H v d
  | [], [], _, _, _ => .inl ⟨rfl, rfl⟩
  | [], _ :: _, _, h, _ => by cases h
  | _ :: _, [], _, h, _ => by cases h
  | (a, v) :: r, (b, d) :: t, k, h, .cons q q2 => by
    have h1 : a = b := (List.cons.inj h).1
    subst h1
    by_cases e : a = k
    · refine .inr ⟨d, v, ?_, ?_, q⟩
      · simp [lookT, List.find?_cons, e]
      · simp [valV, List.find?_cons, e]
    · have e1 : lookT ((a, d) :: t) k = lookT t k := by simp [lookT, List.find?_cons, e]
      have e2 : valV ((a, v) :: r) k = valV r k := by simp [valV, List.find?_cons, e]
      rw [e1, e2]
      exact look_val k (List.cons.inj h).2 q2
theorem any_names {α β : Type} {k : List Key} : ∀ {kvs : List (List Key × α)} {ds : List (List Key × β)}, kvs.map (·.1) = ds.map (·.1) → (kvs.any fun kv => decide (kv.1 = k)) = ds.any fun kv => decide (kv.1 = k)
  | [], [], _ => rfl
  | [], _ :: _, h => by cases h
  | _ :: _, [], h => by cases h
  | (a, v) :: r, (b, d) :: t, h => by
    have h1 : a = b := (List.cons.inj h).1
    subst h1
    rw [List.any_cons, List.any_cons, any_names (List.cons.inj h).2]
theorem repl_names {α : Type} (k : List Key) (d : α) : ∀ ds : List (List Key × α), (ds.map fun kv => if kv.1 = k then (kv.1, d) else kv).map (·.1) = ds.map (·.1)
  | [] => rfl
  | (a, x) :: r => by
    rw [List.map_cons, List.map_cons, List.map_cons, repl_names k d r]
    by_cases e : a = k
    · simp [e]
    · simp [e]
theorem repl_reps {k : List Key} {v : V} {d : D} (rd : Rep K mg Z H v d) : ∀ {kvs : List (List Key × V)} {ds : List (List Key × D)}, kvs.map (·.1) = ds.map (·.1) → Reps K mg Z H (kvs.map (·.2)) (ds.map (·.2)) → Reps K mg Z H ((kvs.map fun kv => if kv.1 = k then (kv.1, v) else kv).map (·.2)) ((ds.map fun kv => if kv.1 = k then (kv.1, d) else kv).map (·.2))
  | [], [], _, _ => .nil
  | [], _ :: _, h, _ => by cases h
  | _ :: _, [], h, _ => by cases h
  | (a, x) :: r, (b, y) :: t, h, .cons q q2 => by
    have h1 : a = b := (List.cons.inj h).1
    subst h1
    have ih := repl_reps (k := k) rd (List.cons.inj h).2 q2
    rw [List.map_cons, List.map_cons, List.map_cons, List.map_cons]
    by_cases e : a = k
    · simp only [e, if_true]
      exact .cons rd ih
    · simp only [e, if_false]
      exact .cons q ih
theorem put_rel {kvs : List (List Key × V)} {ds : List (List Key × D)} {k : List Key} {v : V} {d : D} (h : kvs.map (·.1) = ds.map (·.1)) (r : Reps K mg Z H (kvs.map (·.2)) (ds.map (·.2))) (rd : Rep K mg Z H v d) :
    (putK kvs k v).map (·.1) = (putT ds k d).map (·.1) ∧ Reps K mg Z H ((putK kvs k v).map (·.2)) ((putT ds k d).map (·.2)) := by
  unfold putK putT
  rw [any_names h]
  split
  · exact ⟨by rw [repl_names, repl_names, h], repl_reps rd h r⟩
  · rw [List.map_append, List.map_append, List.map_append, List.map_append, h]
    exact ⟨rfl, r.app (.one rd)⟩
def rDGet : R2 := fun x y H Q => ∃ a v, x = .ref a ∧ DGet H a y (some v) ∧ Q v H
theorem v_dget : OpV K mg dgetD rDGet := by
  intro W w σ x y a b Q va vb h
  unfold dgetD at h
  split at h
  · rename_i kvs
    obtain ⟨p, kvs', rfl, hp, hn, r⟩ := va
    obtain ⟨k, hk, h⟩ := h.opt
    obtain ⟨d, hd, h⟩ := h.opt
    obtain ⟨q, rfl, hq⟩ := key_at vb hk
    rcases look_val k hn r with ⟨z, _⟩ | ⟨d', v, h1, h2, h3⟩
    · rw [hd] at z
      cases z
    · rw [hd] at h1
      cases h1
      exact ⟨p, v, rfl, .inr ⟨kvs', k, q, hp, rfl, hq, h2.symm⟩, h.ret h3⟩
  · exact h.no.elim
end
/-! ### y in d -/
def pDin (neg : Bool) (t : TEp) (tb : TBp) : TEp := fun ρ M E Q => t ρ M E fun y ρ1 M1 => tb ρ1 M1 E fun b ρ2 M2 => pOpt (b.get ρ2 M2) (fun c => dinD neg c (cn M2 y)) ρ2 M2 E Q
section
variable {W : WX} {X : Cx} {o i e : Expr} {t te : TEp} {tb : TBp} {pos pos' : Pos} {m : Bool} {k : Nat}
theorem pp_dget (hr : Room k X.A) (hb : PBp W X o tb) (hi : PEp W X i t) (hs : NoSl i := by exact fun _ _ => rfl) : PEp W X (.Subscript o i pos) (pIx dgetD tb t) := PE.imp (pe_dget (hu_of hr) hb hi hs) fun σ H Q h => ix_lift v_dget h
theorem din_lift {K : PySem.W.Frag} {mg : Str → Option Value} {σ : L2.St} {H : Hp} {Q : VK} {neg : Bool} (h : LE K mg W (pDin neg t tb) σ H Q) : LE K mg W t σ H fun y H1 => LB K mg W tb σ H1 fun x H2 => ∃ a o, x = .ref a ∧ DGet H2 a y o ∧ Q (.bl (xor neg o.isSome)) H2 := by
  obtain ⟨w, e, B, ρ, Q0, E0, R, h, kk, xx⟩ := h
  refine ⟨w, e, B, ρ, _, E0, R, h, fun y ρ1 M1 q w1 v e1 k1 R1 r1 => ?_, xx⟩
  subst e1
  refine ⟨w1, rfl, B, ρ1, _, E0, R1, q, fun b ρ2 M2 q2 w2 u e2 k2 R2 acc => ?_, xx.ke k1⟩
  subst e2
  obtain ⟨c, hc, l⟩ := LW.opt (K := K) (mg := mg) (W := W) (σ := σ) (Q := Q) (w := w2) ⟨B, ρ2, Q0, E0, R2, q2, fun d ρ3 M3 q3 w3 v3 e3 k3 R3 r3 => kk d ρ3 M3 q3 w3 v3 e3 ((k1.trans k2).trans k3) R3 r3, xx.ke (k1.trans k2)⟩
  have vc := acc.get w2 ρ2 (Ke.refl _ _) R2 c hc
  unfold dinD at l
  split at l
  · obtain ⟨p, kvs', rfl, hp, hn, r⟩ := vc
    obtain ⟨key, hk, l⟩ := l.opt
    obtain ⟨q, rfl, hq⟩ := key_at ((r1.ke k2).view R2.ok) hk
    refine ⟨p, valV kvs' key, rfl, .inr ⟨kvs', key, q, hp, rfl, hq, rfl⟩, ?_⟩
    rcases look_val key hn r with ⟨z, z2⟩ | ⟨d', v, h1, h2, h3⟩
    · rw [z] at l
      rw [z2]
      exact l.ret (.bl _)
    · rw [h1] at l
      rw [h2]
      exact l.ret (.bl _)
  · exact l.no.elim
theorem din_pc (hr : Room k X.A) (hi : PEp W X i t) (hb : PBp W X o tb) : PC X .In i o (LE X.K X.mg W (pDin false t tb)) := ⟨fun pins s σ H Q I h => (pc_din (hu_of hr) hi hb).run pins s σ H Q I (by
  have z := din_lift h
  simp only [Bool.false_xor] at z
  exact z)⟩
theorem dnin_pc (hr : Room k X.A) (hi : PEp W X i t) (hb : PBp W X o tb) : PC X .NotIn i o (LE X.K X.mg W (pDin true t tb)) := ⟨fun pins s σ H Q I h => (pc_dnotin (hu_of hr) hi hb).run pins s σ H Q I (by
  have z := din_lift h
  simp only [Bool.true_xor] at z
  exact z)⟩
theorem ptp_din (hr : Room k X.A) (hi : PEp W X i t) (hb : PBp W X o tb) (hm : behindInMarks .In o = false := by rfl) : PTp W X (.Compare i [.In] [o] pos) (pTst (pDin false t tb)) := PT.imp (pt_cmp (din_pc hr hi hb) hm) fun σ H Q h => tst_lift h
theorem ptp_dnin (hr : Room k X.A) (hi : PEp W X i t) (hb : PBp W X o tb) (hm : behindInMarks .NotIn o = false := by rfl) : PTp W X (.Compare i [.NotIn] [o] pos) (pTst (pDin true t tb)) := PT.imp (pt_cmp (dnin_pc hr hi hb) hm) fun σ H Q h => tst_lift h
theorem pp_din (hr : Room k X.A) (hi : PEp W X i t) (hb : PBp W X o tb) (hm : behindInMarks .In o = false := by rfl) : PEp W X (.Compare i [.In] [o] pos) (pDin false t tb) := pe_cmp (din_pc hr hi hb) hm
theorem pp_dnin (hr : Room k X.A) (hi : PEp W X i t) (hb : PBp W X o tb) (hm : behindInMarks .NotIn o = false := by rfl) : PEp W X (.Compare i [.NotIn] [o] pos) (pDin true t tb) := pe_cmp (dnin_pc hr hi hb) hm
/-! ### d[y] = v -/
def putDT (y v : D) : D → (D → Prop) → Prop
  | .dT kvs, k => ∃ key, keyT y = some key ∧ kvs.length < 16777216 ∧ k (.dT (putT kvs key v))
  | _, _ => False
def sDput (tb : TBp) (ti te : TEp) : TSp := fun E D ρ M => te ρ M E fun v ρ1 M1 => tb ρ1 M1 E fun b ρ2 M2 => ti ρ2 M2 E fun y ρ3 M3 => ∃ c, b.get ρ3 M3 = some c ∧ putDT (cn M3 y) v c fun c' => ∃ ρ4 M4, b.put ρ3 M3 c' = some (ρ4, M4) ∧ D.nx ρ4 M4
theorem s_dput (hr : Room k X.A) (hb : PBp W X o tb) (hi : PEp W X i t) (he : PEp W X e te) (hs : swapsWith e (some (.Subscript o i pos')) pos.line X.env = pure false := by rfl) : PSp W m X (.Assign [.Subscript o i pos'] e pos) (sDput tb t te) := by
  refine PS.imp (ps_dput (hu_of hr) hb hi he hs) fun D σ H ⟨w, e, B, ρ, Dp, E0, R, h, d, x⟩ => ⟨w, e, B, ρ, _, E0, R, h, fun v ρ1 M1 q1 w1 u1 e1 k1 R1 r1 => ?_, x.lx⟩
  subst e1
  refine ⟨w1, rfl, B, ρ1, _, E0, R1, q1, fun b ρ2 M2 q2 w2 u2 e2 k2 R2 acc => ?_, (x.ke k1).lx⟩
  subst e2
  refine ⟨w2, rfl, B, ρ2, _, E0, R2, q2, fun y ρ3 M3 q3 w3 u3 e3 k3 R3 r3 => ?_, (x.ke (k1.trans k2)).lx⟩
  subst e3
  obtain ⟨c, hc, q3⟩ := q3
  unfold putDT at q3
  split at q3
  · obtain ⟨key, hk, hl, ρ4, M4, hp, q4⟩ := q3
    obtain ⟨b0, rfl, hb0⟩ := key_at (r3.view R3.ok) hk
    obtain ⟨p, rfl, kvs', hat, hn, rr⟩ := acc.cell w3 ρ3 k3 R3 _ _ _ hp hc
    obtain ⟨p', e', ke, hR⟩ := acc.put w3 ρ3 k3 R3 _ _ _ hp
    cases e'
    have hlen : kvs'.length < sizeLine := by
      have := congrArg List.length hn
      rw [List.length_map, List.length_map] at this
      have e : sizeLine = 16777216 := rfl
      omega
    obtain ⟨n1, n2⟩ := put_rel (k := key) hn rr (r1.ke (k2.trans k3))
    refine ⟨p, _, rfl, .inr ⟨kvs', key, b0, hat, rfl, hb0, hlen, rfl⟩, ?_⟩
    exact d.nx ρ4 M4 q4 ⟨w3.Z, M4, _⟩ σ rfl (((k1.trans k2).trans k3).trans (ke _)) (hR _ ⟨_, upd_same, n1, n2.ke (ke _)⟩)
  · exact q3.elim
end
/-! ### the readings, applied -/
section
variable {ρ : PSt} {M : PHp} {E : XP} {Q : QP} {D' : EndsP} {t te ti : TEp} {tb : TBp} {b : Bs} {kvs : List (List Key × D)} {d y v : D} {ds : List D} {neg : Bool} {Kp : D → Prop}
theorem d_dget : dgetD (.dT kvs) y ρ M E Q = pOpt (keyT y) (fun k => pOpt (lookT kvs k) pRet) ρ M E Q := rfl
theorem d_din : dinD neg (.dT kvs) y ρ M E Q = pOpt (keyT y) (fun k => pRet (.bl (xor neg (lookT kvs k).isSome))) ρ M E Q := rfl
theorem key2 {i j : Int} : keyT (.tup [.int i, .int j]) = some (KI [i, j]) := rfl
def kdin2 (neg : Bool) (y : D) (E : XP) (Q : QP) : Bs → PSt → PHp → Prop := fun b ρ2 M2 => pOpt (b.get ρ2 M2) (fun c => dinD neg c (cn M2 y)) ρ2 M2 E Q
def kdin1 (neg : Bool) (tb : TBp) (E : XP) (Q : QP) : QP := fun y ρ1 M1 => tb ρ1 M1 E (kdin2 neg y E Q)
theorem u_din : pDin neg t tb ρ M E Q = t ρ M E (kdin1 neg tb E Q) := rfl
theorem u_din1 : kdin1 neg tb E Q d ρ M = tb ρ M E (kdin2 neg d E Q) := rfl
theorem u_din2 : kdin2 neg d E Q b ρ M = pOpt (b.get ρ M) (fun c => dinD neg c (cn M d)) ρ M E Q := rfl
theorem u_pdt : putDT y v (.dT kvs) Kp = ∃ key, keyT y = some key ∧ kvs.length < 16777216 ∧ Kp (.dT (putT kvs key v)) := rfl
def kput (b : Bs) (D' : EndsP) (ρ : PSt) (M : PHp) : D → Prop := fun c' => ∃ ρ4 M4, b.put ρ M c' = some (ρ4, M4) ∧ D'.nx ρ4 M4
def putO (y v : D) (b : Bs) (D' : EndsP) (ρ : PSt) (M : PHp) (o : Option D) : Prop := ∃ c, o = some c ∧ putDT y v c (kput b D' ρ M)
def kdp3 (v : D) (b : Bs) (D' : EndsP) : QP := fun y ρ3 M3 => putO (cn M3 y) v b D' ρ3 M3 (b.get ρ3 M3)
def kdp2 (v : D) (ti : TEp) (E : XP) (D' : EndsP) : Bs → PSt → PHp → Prop := fun b ρ2 M2 => ti ρ2 M2 E (kdp3 v b D')
def kdp1 (tb : TBp) (ti : TEp) (E : XP) (D' : EndsP) : QP := fun v ρ1 M1 => tb ρ1 M1 E (kdp2 v ti E D')
theorem u_dp : sDput tb ti te E D' ρ M = te ρ M E (kdp1 tb ti E D') := rfl
theorem u_dp1 : kdp1 tb ti E D' v ρ M = tb ρ M E (kdp2 v ti E D') := rfl
theorem u_dp2 : kdp2 v ti E D' b ρ M = ti ρ M E (kdp3 v b D') := rfl
theorem u_dp3 : kdp3 v b D' y ρ M = putO (cn M y) v b D' ρ M (b.get ρ M) := rfl
theorem u_dp4 : putO y v b D' ρ M (some d) = putDT y v d (kput b D' ρ M) := by unfold putO; simp
theorem u_kput : kput b D' ρ M d = ∃ ρ4 M4, b.put ρ M d = some (ρ4, M4) ∧ D'.nx ρ4 M4 := rfl
end
end CM

/-! the pure layer: isinstance of two types, of one's own class; a name that stands for another def -/
namespace CM
open PySem PySem.Spec PyProof.Rows L2
def isiTD : List D → TEp
  | [x, .tup [.ty U, .ty U']] => pOpt (tyD x) fun T => pGu (okTy U = true ∧ okTy U' = true) (pRet (.bl (subTy T U || subTy T U')))
  | _ => pNo
/-- what isinstance asks of a class of one's own -/
structure ClsI (K : PySem.W.Frag) (C : Addr) : Prop where
  cl : Cls K C
  ha : PySem.W.findIn K (.ref C) "__class__" = some (some (.builtin "object.__class__"))
  hn : PySem.W.specialIn K (.builtin "object.__class__") "__get__" = some (some (.builtin "getset_descriptor.__get__"))
  htk : PySem.W.takesIn K (.builtin "object.__class__") = some true
  hm : PySem.W.mroIn K C (.type "object") = some true
def IsiC (K : PySem.W.Frag) (mg : Str → Option Value) (C : Str) : Prop := ∃ Ca, mg C = some (.ref Ca) ∧ ClsI K Ca ∧ PySem.W.keepIn K (.ref Ca) = true
def isiOD (C : Str) : List D → TEp
  | [.obj C' fs, .fn C''] => pGu (C' = C ∧ C'' = C) (pRet (.bl true))
  | _ => pNo
section
variable {K : PySem.W.Frag} {mg : Str → Option Value} {C : Str}
def rIsiT2 (K : PySem.W.Frag) : RC := fun vs H Q => ∃ x tp T U U', vs = [x, .ref tp] ∧ H tp = some (.tup [.ty U, .ty U']) ∧ TyX K H x (.type T) ∧ okTy T = true ∧ okTy U = true ∧ okTy U' = true ∧ Q (.bl (subTy T U || subTy T U')) H
theorem c_isiT : CaV K mg isiTD (rIsiT2 K) := by
  intro W w σ vs ds Q va h
  unfold isiTD at h
  split at h
  · obtain ⟨v, u, rfl, vc, vd⟩ := views2 va
    obtain ⟨T, e, h⟩ := h.opt
    obtain ⟨ho, h⟩ := h.gu
    obtain ⟨tp, us, rfl, hb, r⟩ := vd
    cases r with
    | cons r1 r2 =>
      cases r2 with
      | cons r2 r3 =>
        cases r1; cases r2; cases r3
        rcases hb with hb | ⟨_, z | ⟨v, hm, _, hv⟩⟩
        · exact ⟨_, tp, T, _, _, rfl, hb, tyD_of vc e, tyD_ok e, ho.1, ho.2, h.ret (.bl _)⟩
        · cases z
        · simp only [List.mem_cons, List.not_mem_nil, or_false] at hm
          rcases hm with rfl | rfl
          · exact absurd rfl (hv _)
          · exact absurd rfl (hv _)
  · exact h.no.elim
def rIsiO (K : PySem.W.Frag) (Ca : Addr) : RC := fun vs H Q => ∃ a dx fs, vs = [.ref a, .ref Ca] ∧ H a = some (.ins Ca dx fs) ∧ Q (.bl true) H
theorem c_isiO {Ca : Addr} (hC : mg C = some (.ref Ca)) : CaV K mg (isiOD C) (rIsiO K Ca) := by
  intro W w σ vs ds Q va h
  unfold isiOD at h
  split at h
  · obtain ⟨v, u, rfl, vc, vd⟩ := views2 va
    obtain ⟨⟨e1, e2⟩, h2⟩ := h.gu
    subst e1 e2
    obtain ⟨a, Cb, dx, fvs, rfl, g1, g2, g3, g4⟩ := vc
    obtain ⟨f, rfl, g5⟩ := vd
    rw [hC] at g1 g5
    cases g1
    cases g5
    exact ⟨a, dx, fvs, rfl, g2, h2.ret (.bl _)⟩
  · exact h.no.elim
end
section
variable {X : Cx} {W : WX} {e : Expr} {es : List Expr} {ta : TAp} {p pos : Pos} {C : Str}
theorem call_isiT2 {K : PySem.W.Frag} (hK : X.K = K := by rfl) : CallR X (.builtin "isinstance") (rIsiT2 K) := hK ▸ callImp call_isiT fun vs H Q ⟨x, tp, T, U, U', e, h1, h2, h3, h4, h5, q⟩ => by
  subst e
  refine ⟨x, tp, _, .type T, [.type U, .type U'], _, rfl, h1, .cons (.ty U) (.cons (.ty U') .nil), h2, ?_, q⟩
  refine kitAny_cons (kit_of_ty h3 h4) (fun hb => ?_) (fun hb => ?_)
  · rw [hb, Bool.false_or]
    refine kitAny_cons (kit_of_ty h3 h5) (fun hb => ?_) (fun hb => hb)
    rw [hb]
    exact kitAny_nil
  · rw [hb]
    rfl
theorem call_isiO {Ca : Addr} (c : ClsI X.K Ca) : CallR X (.builtin "isinstance") (rIsiO X.K Ca) := callImp call_isi fun vs H Q ⟨a, dx, fs, e, h1, q⟩ => by
  subst e
  exact ⟨_, _, .ref Ca, .ref Ca, true, rfl, .own Ca, .base (.ins h1 c.cl c.ha c.hn c.htk c.hm), by unfold PySem.W.kitOne; rw [if_pos (by simp)], q⟩
theorem pp_isiO (hC : IsiC X.K X.mg C) (hg : Gl X "isinstance") (hm : X.mg "isinstance" = none) (ha : PAp W X (e :: es) ta)
    (hs : starEach (e :: es) X.env = (false, eval e X.env) :: starEach es X.env := by rfl) (hp : (backTo pos (starEach es X.env)).any (·.1) = false := by rfl) : PEp W X (.Call (.Name "isinstance" p) (e :: es) [] pos) (pCB (isiOD C) ta) := by
  obtain ⟨Ca, h1, c, _⟩ := hC
  exact pp_callB (call_isiO c) (c_isiO h1) hg hm (by decide +kernel) ha (by decide) (by decide) hs hp
theorem pp_clsV (hC : IsiC X.K X.mg C) (hg : Gl X C := by rfl) (hd : (C == ("__debug__" : Str)) = false := by decide) : PEp W X (.Name C pos) (pGf C) := by
  obtain ⟨Ca, h1, _, k⟩ := hC
  exact pp_gf h1 k hg hd
end
section
variable {ρ : PSt} {M : PHp} {E : XP} {Q : QP} {d : D} {U U' : String} {C C1 C2 : Str} {fs : List (Str × D)}
theorem d_isiT : isiTD [d, .tup [.ty U, .ty U']] ρ M E Q = pOpt (tyD d) (fun T => pGu (okTy U = true ∧ okTy U' = true) (pRet (.bl (subTy T U || subTy T U')))) ρ M E Q := rfl
theorem d_isiO : isiOD C [.obj C fs, .fn C] ρ M E Q = Q (.bl true) ρ M := by
  show ((C = C ∧ C = C) ∧ Q (.bl true) ρ M) = _
  simp
end
/-! ### the head -/
section
variable {K : PySem.W.Frag} {h : Heap} {mg : Str → Option Value} {C x name qual : Str} {st : Stmt} {ps : List Str} {Ca f : Addr} {oc : Value} {od an : Option Addr} {osl : Array (Option Value)} {kV doc pm cdv ct : Value}
abbrev IsiOf (_ : K.In h) (mg : Str → Option Value) (C : Str) : Prop := IsiC K mg C
theorem isi_mk (X : K.In h) (G : h.Ns mainGlobals mg) (a : PySem.W.nsIn K mainGlobals C = some (some (.ref Ca))) (pg : PySem.W.plainGet K Ca Str.empty = true) (hd : PySem.W.hasDictIn K Ca = true) (po : PySem.W.plainOver K Ca = true)
    (sa : PySem.W.findIn K (.ref Ca) "__setattr__" = some (some (.builtin "object.__setattr__"))) (ha : PySem.W.findIn K (.ref Ca) "__class__" = some (some (.builtin "object.__class__")))
    (hn : PySem.W.specialIn K (.builtin "object.__class__") "__get__" = some (some (.builtin "getset_descriptor.__get__"))) (htk : PySem.W.takesIn K (.builtin "object.__class__") = some true) (hm : PySem.W.mroIn K Ca (.type "object") = some true) (k : PySem.W.keepIn K (.ref Ca) = true) : IsiOf X mg C :=
  ⟨Ca, PySem.W.mg_of X G a, ⟨⟨pg, hd, po, sa⟩, ha, hn, htk, hm⟩, k⟩
abbrev MDfQ (_ : K.In h) (mg : Str → Option Value) (C name qual : Str) (st : Stmt) (ps : List Str) : Prop := MDf K name qual st ps (KdQ K mg C)
theorem mdfQ_mk (X : K.In h) (G : h.Ns mainGlobals mg) (a : PySem.W.nsIn K mainGlobals C = some (some (.ref Ca))) (at_ : PySem.W.findIn K (.ref Ca) "__call__" = some (some (.ref f))) (fi : PySem.W.fnIn K f = true) (fn : PySem.W.isFn K (.ref f) = true)
    (l : K.lookup f = some ⟨oc, od, .func (PySem.W.fnOf name qual (defArgs st) (defBody st) (defScope st) .none kV doc pm an cdv ct), osl⟩) (ci : PySem.W.codeIn K cdv qual = true) (k : PySem.W.keepIn K (.ref f) = true)
    (hb : ∀ (kV doc pm : Value) (an : Option Addr) (cdv ct : Value) (us : List Value), us.length = ps.length → bindArgs (PySem.W.fnOf name qual (defArgs st) (defBody st) (defScope st) .none kV doc pm an cdv ct) ⟨us, []⟩ = pure (ps.zip us)) : MDfQ X mg C name qual st ps :=
  ⟨f, _, ⟨Ca, PySem.W.mg_of X G a, ⟨at_, fi, fn⟩⟩, fun_mk l ci k, (fun_mk (st := st) l ci k).binds hb⟩
abbrev KDfOf (_ : K.In h) (mg : Str → Option Value) (C qual : Str) (st : Stmt) (kws : List (Str × V)) : Prop := KDf K mg C qual st kws
theorem kdf_mk {T Dk e0 : Addr} {oT : Obj} {tn : Nat} {k1 k2 : Str} {i1 i2 : Int} {t1 t2 : Tok} (X : K.In h) (G : h.Ns mainGlobals mg) (a : PySem.W.nsIn K mainGlobals C = some (some (.ref Ca))) (mk : PySem.W.makesIn K Ca = true) (at_ : PySem.W.findIn K (.ref Ca) "__init__" = some (some (.ref f))) (fn : PySem.W.isFn K (.ref f) = true) (kp : PySem.W.keepIn K (.ref Ca) = true)
    (l : K.lookup f = some ⟨oc, od, .func (PySem.W.fnOf "__init__" qual (defArgs st) (defBody st) (defScope st) (.ref T) (.ref Dk) doc pm an cdv ct), osl⟩) (ci : PySem.W.codeIn K cdv qual = true) (k : PySem.W.keepIn K (.ref f) = true)
    (lT : K.lookup T = some oT) (eT : oT.data = .seq #[.ref e0] tn) (n1 : PySem.W.nsIn K Dk k1 = some (some (.int i1 t1))) (n2 : PySem.W.nsIn K Dk k2 = some (some (.int i2 t2))) : KDfOf X mg C qual st [(k1, .int i1), (k2, .int i2)] := by
  refine ⟨f, _, Ca, .ref e0, PySem.W.mg_of X G a, ⟨mk, at_, fn, kp⟩, ⟨⟨oc, od, .ref T, .ref Dk, doc, pm, an, cdv, ct, osl, rfl, l, ci, .inr ⟨by simp, T, oT, [.ref e0], tn, rfl, lT, eT, .cons rfl .nil⟩, .inr ⟨Dk, rfl, fun q hq => ?_⟩⟩, k⟩⟩
  simp only [List.mem_cons, List.not_mem_nil, or_false] at hq
  rcases hq with rfl | rfl
  · exact ⟨_, n1, _, rfl⟩
  · exact ⟨_, n2, _, rfl⟩
end
end CM

/-! the pure layer: a def under another name -/
namespace CM
open PySem PySem.Spec PyProof.Rows L2
structure DfA (K : PySem.W.Frag) (mg : Str → Option Value) (x own : Str) (st : Stmt) (ps : List Str) : Prop where
  ex : ∃ f fd, mg x = some (.ref f) ∧ Fun K own own st f fd ∧ Binds K fd ps []
section
variable {P : Program} {w : World} {K : PySem.W.Frag} {mg : Str → Option Value} {base : Heap}
theorem DfA.okQ {x own : Str} {st : Stmt} {N ps : List Str} {k : Nat} {m : Bool} {sp : SpP} (Dd : DfA K mg x own st ps) (S : FnScope N ps (defScope st))
    (hbody : ∀ (f : Addr) (cdv : Value) (A : Around) (outer : List Env) (s : Shared) (H : Hp) (E : XK), Room k (A.deeper (envOfC own (defScope st) s.heap.objs.size f cdv)) → Takes (cxOf (L2.CX P w) P w K mg base N own (defScope st) f cdv A outer s H E) (fun cls d _ H => E cls d H) →
      PassesOwn (model P w) (cxOf (L2.CX P w) P w K mg base N own (defScope st) f cdv A outer s H E).A (cxOf (L2.CX P w) P w K mg base N own (defScope st) f cdv A outer s H E).env (cxOf (L2.CX P w) P w K mg base N own (defScope st) f cdv A outer s H E).xe →
      ∃ t, PSsp (fun cls d _ H => E cls d H) m (cxOf (L2.CX P w) P w K mg base N own (defScope st) f cdv A outer s H E) (defBody st) t ∧ ∀ ds M (E0 : XC) (Q0 : D → PHp → Prop), ds.length = ps.length → sp ds M E0 Q0 → t (fnX E0) (endsK Q0) (startP N ds) M) : FnP P w K mg base x (k + 1) ps m sp := by
  obtain ⟨f, fd, h1, F, b⟩ := Dd.ex
  obtain ⟨oc, od, kV, doc, pm, an, cdv, ct, osl, e1, lk, hcd⟩ := F.ex
  refine ⟨f, fd, h1, F.okX S (fun vs H Q E h => h.1) (fun cdv A outer s H vs Q E hr h => ?_), F.kp, b, oc, od, osl, lk⟩
  obtain ⟨t, ht, hq⟩ := hbody f cdv A outer s H E hr (takes_of rfl rfl rfl rfl) (passes_of rfl)
  exact ⟨_, ht, ls_start h hq⟩
variable {h : Heap} {x own : Str} {st : Stmt} {ps : List Str} {f : Addr} {oc : Value} {od an : Option Addr} {osl : Array (Option Value)} {kV doc pm cdv ct : Value}
abbrev DfAOf (_ : K.In h) (mg : Str → Option Value) (x own : Str) (st : Stmt) (ps : List Str) : Prop := DfA K mg x own st ps
theorem dfa_mk (X : K.In h) (G : h.Ns mainGlobals mg) (a : PySem.W.nsIn K mainGlobals x = some (some (.ref f)))
    (l : K.lookup f = some ⟨oc, od, .func (PySem.W.fnOf own own (defArgs st) (defBody st) (defScope st) .none kV doc pm an cdv ct), osl⟩) (c : PySem.W.codeIn K cdv own = true) (k : PySem.W.keepIn K (.ref f) = true)
    (hb : ∀ (kV doc pm : Value) (an : Option Addr) (cdv ct : Value) (us : List Value), us.length = ps.length → bindArgs (PySem.W.fnOf own own (defArgs st) (defBody st) (defScope st) .none kV doc pm an cdv ct) ⟨us, []⟩ = pure (ps.zip us)) : DfAOf X mg x own st ps :=
  ⟨f, _, PySem.W.mg_of X G a, fun_mk l c k, (fun_mk (st := st) l c k).binds hb⟩
end
end CM

/-! the pure layer: a walk over a list or a tuple; the calls of a class with keywords -/
namespace CM
open PySem PySem.Spec PyProof.Rows L2
def iLT (t : TEp) : TItp := fun ρ M E Q => iL t ρ M E Q ∨ iT t ρ M E Q
theorem ip_seq {W : WX} {X : Cx} {tg e : Expr} {t : TEp} (h : PEp W X e t) : PIp' W X tg e (iLT t) := ⟨fun pins s σ H R I ⟨w, e, B, ρ, Q0, E0, Rl, hh, k, x⟩ => by
  rcases hh with hh | hh
  · exact (ip_lst h).run pins s σ H R I ⟨w, e, B, ρ, Q0, E0, Rl, hh, k, x⟩
  · exact (ip_tup h).run pins s σ H R I ⟨w, e, B, ρ, Q0, E0, Rl, hh, k, x⟩⟩
section
variable {ρ : PSt} {M : PHp} {E : XP} {t : TEp} {xs : List D} {Qi : List D → (PHp → Prop) → PSt → PHp → Prop}
theorem u_iLT : iLT t ρ M E Qi = (t ρ M E (kiL Qi) ∨ t ρ M E (kiT Qi)) := rfl
theorem u_iLf : kiL Qi (.tup xs) ρ M = False := rfl
theorem u_iTf : kiT Qi (.lst xs) ρ M = False := rfl
end
/-! ### Meter(first, drop, tables, turns, flag = .., each = ..) -/
theorem reps1 {K : PySem.W.Frag} {mg : Str → Option Value} {Z : Addr → Prop} {H : Hp} (i : Int) : Reps K mg Z H [.int i] [.int i] := .one (.int i)
end CM

/-! the pure layer: small things around making -/
namespace CM
open PySem PySem.Spec PyProof.Rows L2
theorem n_dT {M : PHp} {kvs : List (List Key × D)} : cn M (.dT kvs) = .dT kvs := rfl
theorem delM_none {M : PHp} {a : Addr} (h : M a = none) : delM M a = M := by
  funext b
  unfold delM
  split
  · rename_i e
    rw [e, h]
  · rfl
/-- the making of an object with a dict of its own -/
theorem mkK_end {C f : Str} {Q : QP} {ρ : PSt} {x y : Addr} {M : PHp} {pre post : List (Str × D)} {e : D} (hx : M x = none) (hy : M y = none) (ne : y ≠ x) (q : Q (.obj C (pre ++ (f, e) :: post)) ρ M) :
    mkKQ C Q ρ x M .non (updM (updM M x (.obj C (pre ++ (f, .ref y) :: post))) y e) := by
  refine ⟨rfl, .inr ⟨pre, f, y, e, post, ?_, hy, ne, updM_same, ?_⟩⟩
  · rw [updM_ne (Ne.symm ne), updM_same]
  · have z : delM (delM (updM (updM M x (.obj C (pre ++ (f, .ref y) :: post))) y e) x) y = M := by
      funext b
      unfold delM updM
      by_cases h1 : b = y
      · rw [if_pos h1, h1, hy]
      · rw [if_neg h1]
        by_cases h2 : b = x
        · rw [if_pos h2, h2, hx]
        · rw [if_neg h2, if_neg h1, if_neg h2]
    show Q _ ρ (delM (delM (updM (updM M x (.obj C (pre ++ (f, .ref y) :: post))) y e) x) y)
    rw [z]
    exact q
end CM

/-! the pure layer: {k: v} with a row of whole numbers for a key -/
namespace CM
open PySem PySem.Spec PyProof.Rows L2
def PostD (p : Addr) (Q : VK) (ps : List (V × V)) (H2 : Hp) : Prop := H2 p = some (.dT []) ∧ ∃ (y x : V) (b : Addr) (key : List Key), ps = [(y, x)] ∧ y = .ref b ∧ H2 b = some (.tup (key.map kV)) ∧ Q (.ref p) (upd H2 p (.dT [(key, x)]))
def tDisp1 (tk tv : TE) : TE := fun σ H Q => ∀ p, H p = none → tk σ (upd H p (.dT [])) fun y H1 => tv σ H1 fun v H2 => PostD p Q [(y, v)] H2
section
variable {X : Cx} {k v : Expr} {pos : Pos} {tk tv : TE}
theorem set_one {pins : List (Addr × Obj)} {σ : L2.St} {H : Hp} {s : Shared} {p b : Addr} {key : List Key} {x : V} {r : Value} {A : Around} {E : Value → Shared → Prop} {Q : Unit → Shared → Prop} (hu : A.units < cLine) (I : Inv X pins σ H s) (hp : H p = some (.dT [])) (hb : H b = some (.tup (key.map kV))) (rx : RelV x r)
    (q : ∀ t, Inv X pins σ (upd H p (.dT [(key, x)])) t → Q () t) : wpAny (model X.prog X.w) A (dictSet p (.ref b) r) Q E s := by
  obtain ⟨z, hd, xs, rel, dd⟩ := dt_of I.hok hp
  have hz : xs.length ≤ sizeLine := by rw [← Paired.length rel]; exact z
  refine wpAny_dictSet_heap (knd := tupleKind (mixKind X.prog X.w)) (hsz := hz) hu (key_of I.hok hb) dd fun h' dd' same_ => q _ ?_
  obtain ⟨ob, es, ep, hq, h2, h3, h4, _, h5⟩ := dd'
  have e1 : putK ([] : List (List Key × V)) key x = [(key, x)] := rfl
  refine d_write I (by rw [hp]; exact True.intro) same_ ⟨ob, hq⟩ ?_
  have rel2 := rel.put key hb rx
  rw [e1] at rel2
  exact ⟨by show 1 ≤ sizeLine; decide, hd, _, rel2.keeps fun c ys ec => by rw [upd_ne (ne_of ec hp (fun z => nomatch z))]; exact ec, ob, es, ep, hq, h2, h3, h4, h5⟩
theorem pe_disp1 (hu : X.A.units < cLine) (hk : PE X k tk) (hv : PE X v tv) : PE X (.Dict [some k] [v] pos) (tDisp1 tk tv) := by
  refine ⟨fun pins s σ H Q I q => ?_⟩
  have hn := I.hok.fresh (Nat.le_refl s.heap.objs.size)
  have I1 := I.laid (a := s.heap.objs.size) (o := .dT []) (h' := s.heap.push { cls := .type "dict", data := .dict #[] }) (t' := s.toks) (fun _ _ q => Heap.get?_push_of_some _ q) (Nat.le_refl _) (dt_empty s.heap I.big)
  have q := q _ hn
  refine wpAny_Dict_any rfl rfl (by simp) (by simp) ?_
  refine thn ((pps_cons hk hv (pps_nil (X := X) (pos := pos))).run pins _ σ _ (PostD s.heap.objs.size Q) I1 q) fun vs s2 ⟨ps, H2, I2, rel, hp, y, x, b, key, eps, ey, hb, q2⟩ => ?_
  subst eps ey
  obtain ⟨u, r, evs, ru, rr⟩ : ∃ u r, vs = [(u, r)] ∧ RelV (.ref b) u ∧ RelV x r := by
    cases rel with
    | cons r1 r2 =>
      cases r2
      exact ⟨_, _, rfl, r1.1, r1.2⟩
  subst evs
  cases (show u = Value.ref b from ru)
  show wpAny _ _ (storeAll s.heap.objs.size [(.ref b, r)]) _ _ s2
  unfold storeAll
  simp only [List.forIn_cons, List.forIn_nil]
  refine wpAny_bind (wpAny_bind (set_one hu I2 hp hb rr fun t It => wpAny_pure ?_))
  exact wpAny_pure ⟨.ref s.heap.objs.size, _, It, rfl, q2⟩
end
def pDisp1 (t tv : TEp) : TEp := fun ρ M E Q => t ρ M E fun y ρ1 M1 => tv ρ1 M1 E fun v ρ2 M2 => ∃ key, keyT (cn M2 y) = some key ∧ Q (.dT [(key, v)]) ρ2 M2
section
variable {K : PySem.W.Frag} {mg : Str → Option Value} {W : WX} {σ : L2.St} {H : Hp} {Q : VK} {t tv : TEp}
theorem disp1_lift (h : LO K mg W (pDisp1 t tv) σ H Q) : tDisp1 (LE K mg W t) (LE K mg W tv) σ H Q := by
  obtain ⟨w, e, B, ρ, Q0, E0, R, h, k, x⟩ := h
  subst e
  intro p hp
  have nT : ∀ q ∈ B.T, q.1 ≠ p := fun q hq z => by
    obtain ⟨h1, _⟩ := R.tmp q hq
    rw [z, hp] at h1; cases h1
  have o := own_new (o := .dT []) (d := .dT []) R hp ⟨[], upd_same, rfl, .nil⟩
  have R0 := (R.lay (o := .dT []) hp).aside (p := p) (o := .dT []) upd_same o.nm o.nz o.n0 o.dis
  have x0 : LX K mg W ⟨B.w, (p, .dT []) :: B.T⟩ (w.lay p (.dT [])) σ E0 := fun c g ρ' M' q w' cls dx e' k' R' xr => x c g ρ' M' q w' cls dx e' ((lay_ke hp).trans k') R'.unaside xr
  refine ⟨w.lay p (.dT []), rfl, ⟨B.w, (p, .dT []) :: B.T⟩, ρ, _, E0, R0, h, fun y ρ1 M1 q w1 v1 e1 k1 R1 r1 => ?_, x0⟩
  subst e1
  refine ⟨w1, rfl, ⟨B.w, (p, .dT []) :: B.T⟩, ρ1, _, E0, R1, q, fun z ρ2 M2 ⟨key, hk, q2⟩ w2 v2 e2 k2 R2 r2 => ?_, fun c g ρ' M' q w' cls dx e' k' R' xr => x0 c g ρ' M' q w' cls dx e' (k1.trans k') R' xr⟩
  subst e2
  obtain ⟨g1, _⟩ := R2.tmp (p, .dT []) (List.mem_cons_self ..)
  obtain ⟨b, rfl, hb⟩ := key_at ((r1.ke k2).view R2.ok) hk
  obtain ⟨ke3, R3⟩ := R2.wrT (o' := .dT [(key, v2)]) nT (fun _ z => nomatch z) (fun _ z => nomatch z) (fun _ _ z => nomatch z) (fun _ z => nomatch z) (fun _ z => nomatch z)
  obtain ⟨j1, j2, j3, j4, j5⟩ := R3.tmp (p, .dT [(key, v2)]) (List.mem_cons_self ..)
  refine ⟨g1, _, _, b, key, rfl, rfl, hb, ?_⟩
  exact k (.dT [(key, z)]) ρ2 _ q2 { w2 with H := upd w2.H p (.dT [(key, v2)]) } p rfl ((((lay_ke hp).trans k1).trans k2).trans ke3) R3.unaside ⟨⟨[(key, v2)], upd_same, rfl, .one (r2.ke ke3)⟩, j3, j2, j4, j5, nT⟩
end
section
variable {X : Cx} {W : WX} {k v : Expr} {pos : Pos} {t tv : TEp} {n : Nat}
theorem po_disp1 (hr : Room n X.A) (hk : PEp W X k t) (hv : PEp W X v tv) : PEo W X (.Dict [some k] [v] pos) (pDisp1 t tv) := PE.imp (pe_disp1 (Nat.lt_of_succ_lt (hu_of hr)) hk hv) fun σ H Q h => disp1_lift h
end
section
variable {ρ : PSt} {M : PHp} {E : XP} {Q : QP} {t tv : TEp} {d y : D}
def kds2 (y : D) (Q : QP) : QP := fun v ρ2 M2 => ∃ key, keyT (cn M2 y) = some key ∧ Q (.dT [(key, v)]) ρ2 M2
def kds1 (tv : TEp) (E : XP) (Q : QP) : QP := fun y ρ1 M1 => tv ρ1 M1 E (kds2 y Q)
theorem u_ds : pDisp1 t tv ρ M E Q = t ρ M E (kds1 tv E Q) := rfl
theorem u_ds1 : kds1 tv E Q d ρ M = tv ρ M E (kds2 d Q) := rfl
theorem u_ds2 : kds2 y Q d ρ M = ∃ key, keyT (cn M y) = some key ∧ Q (.dT [(key, d)]) ρ M := rfl
end
end CM

/-! the pure layer: sorted(..) of pairs of whole numbers, list(d) of a dict whose keys are such -/
namespace CM
open PySem PySem.Spec PyProof.Rows L2
def pairD (p : Int × Int) : D := .tup [.int p.1, .int p.2]
/-- p is not behind q -/
def leX (p q : Int × Int) : Prop := p.1 < q.1 ∨ (p.1 = q.1 ∧ p.2 ≤ q.2)
def sortPD : List D → TEp
  | [.lst ds] => fun ρ M E Q => ∃ ps : List (Int × Int), ds = ps.map pairD ∧ ∀ qs : List (Int × Int), qs.Perm ps → qs.Pairwise leX → Q (.lst (qs.map pairD)) ρ M
  | _ => pNo
def keyP (H : Hp) : V → Int × Int
  | .ref t => match H t with
    | some (.tup [.int i, .int j]) => (i, j)
    | _ => (0, 0)
  | _ => (0, 0)
section
variable {K : PySem.W.Frag} {mg : Str → Option Value} {Z : Addr → Prop} {H : Hp} {w : Wd}
theorem pair_rep {v : V} {p : Int × Int} (r : Rep K mg Z H v (pairD p)) : ∃ t, v = .ref t ∧ H t = some (.tup [.int p.1, .int p.2]) := by
  unfold pairD at r
  cases r with
  | tup h r =>
    cases r with
    | cons r1 r2 =>
      cases r2 with
      | cons r2 r3 =>
        cases r1; cases r2; cases r3
        exact ⟨_, rfl, h⟩
  | tupK h r =>
    cases r with
    | cons r1 r2 =>
      cases r2 with
      | cons r2 r3 =>
        cases r1; cases r2; cases r3
        rcases h with ⟨_, z | ⟨v, hm, hv, _⟩⟩
        · cases z
        · simp only [List.mem_cons, List.not_mem_nil, or_false] at hm
          rcases hm with rfl | rfl
          · exact absurd rfl (hv _)
          · exact absurd rfl (hv _)
theorem rep_pair {t : Addr} {p : Int × Int} (h : H t = some (.tup [.int p.1, .int p.2])) : Rep K mg Z H (.ref t) (pairD p) := .tup h (.cons (.int _) (.cons (.int _) .nil))
theorem pairs_reps : ∀ {vs : List V} {ps : List (Int × Int)}, Reps K mg Z H vs (ps.map pairD) → (∀ x ∈ vs, ∃ t, x = .ref t ∧ H t = some (.tup [.int (keyP H x).1, .int (keyP H x).2])) ∧ vs.map (keyP H) = ps
  | [], [], _ => ⟨(fun _ h => by cases h), rfl⟩
  | [], _ :: _, r => by cases r
  | _ :: _, [], r => by cases r
  | v :: vs, p :: ps, .cons r1 r2 => by
    obtain ⟨h1, h2⟩ := pairs_reps r2
    obtain ⟨t, rfl, ht⟩ := pair_rep r1
    have e : keyP H (.ref t) = p := by
      show (match H t with | some (.tup [.int i, .int j]) => (i, j) | _ => ((0 : Int), (0 : Int))) = p
      rw [ht]
    refine ⟨fun x hx => ?_, by rw [List.map_cons, e, h2]⟩
    rcases List.mem_cons.mp hx with rfl | hx
    · exact ⟨t, rfl, by rw [e]; exact ht⟩
    · exact h1 x hx
theorem reps_pairs : ∀ {vs : List V}, (∀ x ∈ vs, ∃ t, x = .ref t ∧ H t = some (.tup [.int (keyP H x).1, .int (keyP H x).2])) → Reps K mg Z H vs ((vs.map (keyP H)).map pairD)
  | [], _ => .nil
  | v :: vs, h => by
    obtain ⟨t, rfl, ht⟩ := h v (List.mem_cons_self ..)
    exact .cons (rep_pair ht) (reps_pairs fun x hx => h x (List.mem_cons_of_mem _ hx))
theorem c_sortP : CaVo K mg sortPD (rSortedPO K) := by
  intro W w σ vs ds Q va h
  unfold sortPD at h
  split at h
  · obtain ⟨v, rfl, a, us, rfl, ha, r⟩ := views1 va
    obtain ⟨B, ρ, Q0, E0, R, ⟨ps, hps, h⟩, k, x⟩ := h
    subst hps
    obtain ⟨h1, h2⟩ := pairs_reps r
    refine ⟨a, us, keyP w.H, rfl, SqL.of ha, h1, fun ys p hs hb hp => ?_⟩
    have hys : ∀ x ∈ ys, ∃ t, x = .ref t ∧ w.H t = some (.tup [.int (keyP w.H x).1, .int (keyP w.H x).2]) := fun x hx => h1 x (hb.perm.subset hx)
    refine LWo.newL (K := K) (mg := mg) (W := W) (σ := σ) ⟨B, ρ, Q0, E0, R, h (ys.map (keyP w.H)) ?_ ?_, k, x⟩ (reps_pairs hys) p hp
    · rw [← h2]
      exact hb.perm.map _
    · rw [List.pairwise_map]
      refine hs.imp fun {x y} h => ?_
      have h : (if (keyP w.H y).1 = (keyP w.H x).1 then decide ((keyP w.H y).2 < (keyP w.H x).2) else decide ((keyP w.H y).1 < (keyP w.H x).1)) = false := h
      unfold leX
      split at h
      · have := of_decide_eq_false h
        omega
      · have := of_decide_eq_false h
        omega
  · obtain ⟨B, ρ, Q0, E0, R, h, _⟩ := h
    exact (show False from h).elim
def listTD : List D → TEp
  | [.dT kvs] => fun ρ M E Q => ∃ ps : List (Int × Int), kvs.map (·.1) = ps.map (fun p => KI [p.1, p.2]) ∧ Q (.lst (ps.map pairD)) ρ M
  | _ => pNo
def rListT : RC := fun xs H Q => ∃ d kvs, xs = [V.ref d] ∧ Rd H d (.dT kvs) ∧ ∀ p bs, H p = none → IsKeys H kvs bs → Q (.ref p) (upd H p (.lst (bs.map V.ref)))
theorem keys_reps : ∀ {kvs : List (List Key × V)} {bs : List Addr} {ps : List (Int × Int)}, IsKeys H kvs bs → kvs.map (·.1) = ps.map (fun p => KI [p.1, p.2]) → Reps K mg Z H (bs.map V.ref) (ps.map pairD)
  | [], _, [], r, _ => by
    cases r
    exact .nil
  | [], _, _ :: _, _, h => by cases h
  | _ :: _, _, [], _, h => by cases h
  | kv :: kvs, _, p :: ps, r, h => by
    unfold IsKeys at r
    cases r with
    | cons r1 r2 =>
      have h1 : kv.1 = KI [p.1, p.2] := (List.cons.inj h).1
      rw [h1] at r1
      exact .cons (rep_pair r1) (keys_reps r2 (List.cons.inj h).2)
theorem c_listT : CaVo K mg listTD rListT := by
  intro W w σ vs ds Q va h
  unfold listTD at h
  split at h
  · obtain ⟨v, rfl, a, kvs', rfl, ha, hn, r⟩ := views1 va
    obtain ⟨B, ρ, Q0, E0, R, ⟨ps, hps, h⟩, k, x⟩ := h
    refine ⟨a, kvs', rfl, ha, fun p bs hp hk => ?_⟩
    exact LWo.newL (K := K) (mg := mg) (W := W) (σ := σ) ⟨B, ρ, Q0, E0, R, h, k, x⟩ (keys_reps hk (hn.trans hps)) p hp
  · obtain ⟨B, ρ, Q0, E0, R, h, _⟩ := h
    exact (show False from h).elim
end
section
variable {W : WX} {X : Cx} {e : Expr} {es : List Expr} {tb : TBp} {ta : TAp}
theorem cb1_lifto {K : PySem.W.Frag} {mg : Str → Option Value} {σ : L2.St} {H : Hp} {Q : VK} {f : List D → TEp} {r : RC} (hf : CaVo K mg f r) (h : LO K mg W (pCB1 f tb) σ H Q) : tCB r (tCons (LB K mg W tb) tNil) σ H Q := by
  obtain ⟨w, e, B, ρ, Q0, E0, R, h, k, x⟩ := h
  refine ⟨w, e, B, ρ, _, E0, R, h, fun b ρ1 M1 q w1 v e1 k1 R1 acc => ?_, x⟩
  subst e1
  have q : pOpt (b.get ρ1 w1.M) (fun c => f [c]) ρ1 w1.M E0 Q0 := q
  cases hc : b.get ρ1 w1.M with
  | none =>
    rw [hc] at q
    exact (show False from q).elim
  | some c =>
    rw [hc] at q
    exact hf W w1 σ [v] [c] Q ⟨acc.get w1 ρ1 (Ke.refl _ _) R1 c hc, trivial⟩ ⟨B, ρ1, Q0, E0, R1, q, fun d ρ3 M3 q3 w3 v3 e3 k3 R3 r3 => k d ρ3 M3 q3 w3 v3 e3 (k1.trans k3) R3 r3, x.ke k1⟩
theorem po_listT {x : Str} {p pos : Pos} (hc : X.calm = true) (hg : Gl X x) (hm : X.mg x = none) (hv : bootBuiltins x = some (.type "list")) (ha : PBp W X e tb) (hn : x ≠ "__name__" := by decide) (hd : (x == ("__debug__" : Str)) = false := by decide)
    (hs : starEach [e] X.env = (false, eval e X.env) :: starEach [] X.env := by rfl) (hp : (backTo pos (starEach [] X.env)).any (·.1) = false := by rfl) : PEo W X (.Call (.Name x p) [e] [] pos) (pCB1 listTD tb) := PE.imp (pe_callTy (call_list_dT hc) hg hm hv (pa_cons ha pa_nil hs) hn hd hs hp) fun σ H Q h => cb1_lifto c_listT h
theorem po_sortP {p pos : Pos} (hg : Gl X "sorted") (hm : X.mg "sorted" = none) (hv : bootBuiltins "sorted" = some (.builtin "sorted")) (ha : PAp W X (e :: es) ta)
    (hs : starEach (e :: es) X.env = (false, eval e X.env) :: starEach es X.env := by rfl) (hp : (backTo pos (starEach es X.env)).any (·.1) = false := by rfl) : PEo W X (.Call (.Name "sorted" p) (e :: es) [] pos) (pCB sortPD ta) := PE.imp (pe_callB cr_sortedPO hg hm hv ha (by decide) (by decide) hs hp) fun σ H Q h => cb_lifto c_sortP h
end
section
variable {ρ : PSt} {M : PHp} {E : XP} {Q : QP} {xs : List D} {kvs : List (List Key × D)}
theorem d_sortP : sortPD [.lst xs] ρ M E Q = ∃ ps : List (Int × Int), xs = ps.map pairD ∧ ∀ qs : List (Int × Int), qs.Perm ps → qs.Pairwise leX → Q (.lst (qs.map pairD)) ρ M := rfl
theorem d_listT : listTD [.dT kvs] ρ M E Q = ∃ ps : List (Int × Int), kvs.map (·.1) = ps.map (fun p => KI [p.1, p.2]) ∧ Q (.lst (ps.map pairD)) ρ M := rfl
end
end CM

/-! the pure layer: methods whose last parameter has a whole number for a default -/
namespace CM
open PySem PySem.Spec PyProof.Rows L2
structure MDD (K : PySem.W.Frag) (name qual : Str) (st : Stmt) (ps : List Str) (dv : Int) (Kd : Addr → Prop) : Prop where
  ex : ∃ f fd u, Kd f ∧ FunD K name qual (defArgs st) (defBody st) (defScope st) [.int dv] [] f fd ∧ Binds K fd ps [] ∧ RelV (.int dv) u ∧ Binds K fd ps [u]
structure MtD (P : Program) (w : World) (K : PySem.W.Frag) (mg : Str → Option Value) (base : Heap) (Kd : Addr → Prop) (k n : Nat) (m : Bool) (dv : Int) (sp : SpP) : Prop where
  ex : ∃ f fd ps u, Kd f ∧ FnOk P w K mg base (L2.CX P w) k f fd ps (LSp K mg m n sp) ∧ Binds K fd ps [] ∧ RelV (.int dv) u ∧ Binds K fd ps [u]
section
variable {P : Program} {w : World} {K : PySem.W.Frag} {mg : Str → Option Value} {base : Heap}
theorem MtD.full {Kd : Addr → Prop} {k n : Nat} {m : Bool} {dv : Int} {sp : SpP} (F : MtD P w K mg base Kd k n m dv sp) : MtF P w K mg base Kd k n m sp := by
  obtain ⟨f, fd, ps, u, h1, G, b, _⟩ := F.ex
  exact ⟨f, h1, fd, ps, G, b⟩
theorem MDD.ok {name qual : Str} {st : Stmt} {N ps : List Str} {dv : Int} {Kd : Addr → Prop} {k : Nat} {m : Bool} {sp : SpP} (Dd : MDD K name qual st ps dv Kd) (S : FnScope N ps (defScope st))
    (hbody : ∀ (f : Addr) (cdv : Value) (A : Around) (outer : List Env) (s : Shared) (H : Hp) (E : XK), Room k (A.deeper (envOfC qual (defScope st) s.heap.objs.size f cdv)) → Takes (cxOf (L2.CX P w) P w K mg base N qual (defScope st) f cdv A outer s H E) (fun cls d _ H => E cls d H) →
      PassesOwn (model P w) (cxOf (L2.CX P w) P w K mg base N qual (defScope st) f cdv A outer s H E).A (cxOf (L2.CX P w) P w K mg base N qual (defScope st) f cdv A outer s H E).env (cxOf (L2.CX P w) P w K mg base N qual (defScope st) f cdv A outer s H E).xe →
      ∃ t, PSsp (fun cls d _ H => E cls d H) m (cxOf (L2.CX P w) P w K mg base N qual (defScope st) f cdv A outer s H E) (defBody st) t ∧ ∀ ds M (E0 : XC) (Q0 : D → PHp → Prop), ds.length = ps.length → sp ds M E0 Q0 → t (fnX E0) (endsK Q0) (startP N ds) M) : MtD P w K mg base Kd (k + 1) ps.length m dv sp := by
  obtain ⟨f, fd, u, h1, F, b, ru, b2⟩ := Dd.ex
  refine ⟨f, fd, ps, u, h1, F.ok S (fun vs H Q E h => h.1) (fun cdv A outer s H vs Q E hr h => ?_), b, ru, b2⟩
  obtain ⟨t, ht, hq⟩ := hbody f cdv A outer s H E hr (takes_of rfl rfl rfl rfl) (passes_of rfl)
  exact ⟨_, ht, ls_start h hq⟩
end
def tMth0D (C : Addr) (m : Str) (sp : Sp) (dv : V) (E : XS) (to : TE) : TE := fun σ H Q => to σ H fun x H1 => ∃ a dx fs, x = .ref a ∧ H1 a = some (.ins C dx fs) ∧ fs.lookup m = none ∧ sp [x, dv] H1 Q (E σ)
section
variable {X : Cx} {k : Nat} {C f : Addr} {sp : Sp} {E : XS} {o : Expr} {m : Str} {pos apos : Pos} {to : TE} {pl : Sem Bool} {fd : FuncData} {ps : List Str} {dv : V} {u : Value}
theorem pe_mth0D (ho : PE X o to) (c : Cls X.K C) (hm : Meth X.K C m f) (G : FnOk X.prog X.w X.K X.mg X.base (L2.CX X.prog X.w) k f fd ps sp) (b : Binds X.K fd ps [u]) (ru : RelV dv u) (hr : Room k X.A) (hx : ∀ σ, PassesAt (L2.CX X.prog X.w) X σ (E σ))
    (ht : eval (.Call (.Attribute o m apos) [] [] pos) X.env = (do let ov ← eval o X.env; standAt apos.atName; let (f, first) ← holding [ov] (getMethod ov m pl); callWith pos f first (backTo pos (starEach [] X.env)) (backToKw pos (keywordEach [] X.env)))) :
    PE X (.Call (.Attribute o m apos) [] [] pos) (tMth0D C m sp dv E to) := by
  constructor
  intro pins s σ H Q I h
  refine PySem.W.methodCall_KW (pl := pl) (thn (ho.run pins s σ H _ I h) fun v s1 ⟨x, H1, I1, rx, a, dx, fs, ex, ea, l, q⟩ => ?_) ht
  subst ex
  cases (show v = Value.ref a from rx)
  exact getmeth_ok I1 ea c hm l (PySem.W.callWith_K0 (first := [.ref a]) I1.kIn hm.kp (run_fnSD (us := [.ref a]) (vs := [.ref a]) G hr b (.cons ru .nil) (hx σ) I1 (.cons rfl .nil) q))
end
def pMth0D (own : Bool) (C m : Str) (sp : SpP) (dv : Int) (t : TEp) : TEp := fun ρ M E Q => t ρ M E fun x ρ1 M1 => (∃ fs, cn M1 x = .obj C fs ∧ fs.lookup m = none) ∧ sp [x, .int dv] M1 (kXC E ρ1) (if own = true then kQO Q ρ1 else kQC Q ρ1)
section
variable {W : WX} {X : Cx} {C mn : Str} {k : Nat} {m : Bool} {sp : SpP} {o : Expr} {t : TEp} {pos apos : Pos} {dv : Int}
theorem po_mth0D {pl : Sem Bool} (tk : Takes X W) (F : MtD X.prog X.w X.K X.mg X.base (KdM X.K X.mg C mn) k 2 true dv sp) (hr : Room k X.A) (ho : PEp W X o t)
    (ht : eval (.Call (.Attribute o mn apos) [] [] pos) X.env = (do let ov ← eval o X.env; standAt apos.atName; let (f, first) ← holding [ov] (getMethod ov mn pl); callWith pos f first (backTo pos (starEach [] X.env)) (backToKw pos (keywordEach [] X.env))) := by rfl) :
    PEo W X (.Call (.Attribute o mn apos) [] [] pos) (pMth0D true C mn sp dv t) := by
  obtain ⟨f, fd, ps, u, ⟨Ca, h1, c, M⟩, G, _, ru, b⟩ := F.ex
  refine PE.imp (pe_mth0D ho c M G b ru hr (passAt tk) ht) fun σ H Q ⟨w, e, B, ρ, Q0, E0, R, h, kk, xx⟩ => ⟨w, e, B, ρ, _, E0, R, h, fun x ρ1 M1 ⟨⟨fs, hx, hl⟩, q⟩ w1 v e1 k1 R1 r1 => ?_, xx⟩
  subst e1
  have vw := r1.view R1.ok
  rw [hx] at vw
  obtain ⟨a, Cb, dx, fvs, rfl, g1, g2, g3, g4⟩ := vw
  rw [h1] at g1
  cases g1
  exact ⟨a, dx, fvs, rfl, g2, names_lookup g3 hl, LSp.callO (vs := [V.ref a, .int dv]) rfl R1 (.cons r1 (.one (.int dv))) q (fun d ρ' M' q' w' v e' k' => kk d ρ' M' q' w' v e' (k1.trans k')) (xx.ke k1)⟩
end
section
variable {ρ : PSt} {M : PHp} {E : XP} {Q : QP} {t : TEp} {sp : SpP} {C mn : Str} {dv : Int} {d : D}
def km0d (C mn : Str) (sp : SpP) (dv : Int) (E : XP) (Q : QP) : QP := fun x ρ1 M1 => mthC C mn (cn M1 x) ∧ sp [x, .int dv] M1 (kXC E ρ1) (kQO Q ρ1)
theorem u_m0d : pMth0D true C mn sp dv t ρ M E Q = t ρ M E (km0d C mn sp dv E Q) := rfl
theorem u_m0d1 : km0d C mn sp dv E Q d ρ M = (mthC C mn (cn M d) ∧ sp [d, .int dv] M (kXC E ρ) (kQO Q ρ)) := rfl
end
/-! ### the head -/
section
variable {K : PySem.W.Frag} {h : Heap} {mg : Str → Option Value} {C name qual : Str} {st : Stmt} {ps : List Str} {dv : Int}
abbrev MDDM (_ : K.In h) (mg : Str → Option Value) (C name qual : Str) (st : Stmt) (ps : List Str) (dv : Int) : Prop := MDD K name qual st ps dv (KdM K mg C name)
theorem mdd_mk {Ca f T : Addr} {oc : Value} {od an : Option Addr} {osl : Array (Option Value)} {kV doc pm cdv ct : Value} {oT : Obj} {tn : Nat} {t1 : Tok} (X : K.In h) (G : h.Ns mainGlobals mg) (a : PySem.W.nsIn K mainGlobals C = some (some (.ref Ca))) (pg : PySem.W.plainGet K Ca Str.empty = true) (hd : PySem.W.hasDictIn K Ca = true) (po : PySem.W.plainOver K Ca = true)
    (sa : PySem.W.findIn K (.ref Ca) "__setattr__" = some (some (.builtin "object.__setattr__"))) (at_ : PySem.W.findIn K (.ref Ca) name = some (some (.ref f))) (fn : PySem.W.isFn K (.ref f) = true)
    (l : K.lookup f = some ⟨oc, od, .func (PySem.W.fnOf name qual (defArgs st) (defBody st) (defScope st) (.ref T) kV doc pm an cdv ct), osl⟩) (ci : PySem.W.codeIn K cdv qual = true) (k : PySem.W.keepIn K (.ref f) = true)
    (lT : K.lookup T = some oT) (eT : oT.data = .seq #[.int dv t1] tn) (hn : ps.length = 2)
    (hb1 : ∀ (T : Addr) (kV doc pm : Value) (an : Option Addr) (cdv ct : Value) (us its : List Value), us.length = 2 → its.length = 1 → ∃ k, bindArgs (PySem.W.fnOf name qual (defArgs st) (defBody st) (defScope st) (.ref T) kV doc pm an cdv ct) ⟨us, []⟩ = seqItems? (.ref T) >>= k ∧ k (some its.toArray) = pure (ps.zip (us ++ its.drop 1)))
    (hb0 : ∀ (T : Addr) (kV doc pm : Value) (an : Option Addr) (cdv ct : Value) (us its : List Value), us.length = 1 → its.length = 1 → ∃ k, bindArgs (PySem.W.fnOf name qual (defArgs st) (defBody st) (defScope st) (.ref T) kV doc pm an cdv ct) ⟨us, []⟩ = seqItems? (.ref T) >>= k ∧ k (some its.toArray) = pure (ps.zip (us ++ its.drop 0))) : MDDM X mg C name qual st ps dv := by
  have F : FunD K name qual (defArgs st) (defBody st) (defScope st) [.int dv] [] f (PySem.W.fnOf name qual (defArgs st) (defBody st) (defScope st) (.ref T) kV doc pm an cdv ct) := ⟨⟨oc, od, .ref T, kV, doc, pm, an, cdv, ct, osl, rfl, l, ci, .inr ⟨by simp, T, oT, [.int dv t1], tn, rfl, lT, eT, .cons ⟨t1, rfl⟩ .nil⟩, .inl rfl⟩, k⟩
  obtain ⟨d1, r1, b1⟩ := F.binds1 (ps := ps) 2 1 (by simp) (by rw [hn]; rfl) hb1
  obtain ⟨d0, r0, b0⟩ := F.binds1 (ps := ps) 1 0 (by simp) (by rw [hn]; rfl) hb0
  cases r1
  cases r0 with
  | cons r r' =>
    cases r'
    exact ⟨f, _, _, ⟨Ca, PySem.W.mg_of X G a, ⟨pg, hd, po, sa⟩, ⟨at_, fn, k⟩⟩, F, b1, r, b0⟩
end
end CM

/-! the pure layer: what is never reached; defs whose last parameter has a whole number for a default; an __init__ whose default is the empty tuple -/
namespace CM
open PySem PySem.Spec PyProof.Rows L2
/-! ### what is never reached -/
def sDead : TSp := fun _ _ _ _ => False
def pDead : TEp := fun _ _ _ _ => False
section
variable {W : WX} {X : Cx} {m : Bool} {st : Stmt} {sts : List Stmt} {e : Expr}
theorem s_dead : PSp W m X st sDead := ⟨fun pins s σ H D I h => by
  obtain ⟨_, _, _, _, _, _, _, z, _⟩ := h
  exact z.elim⟩
theorem pp_dead : PEp W X e pDead := ⟨fun pins s σ H D I h => by
  obtain ⟨_, _, _, _, _, _, _, z, _⟩ := h
  exact z.elim⟩
end
section
variable {ρ : PSt} {M : PHp} {E : XP} {Q : QP} {Ed : EndsP}
theorem u_sdead : sDead E Ed ρ M = False := rfl
theorem u_pdead : pDead ρ M E Q = False := rfl
end
/-! ### defs with a default -/
structure DfE (K : PySem.W.Frag) (mg : Str → Option Value) (x : Str) (st : Stmt) (ps : List Str) (dv : Int) : Prop where
  ex : ∃ f fd u, mg x = some (.ref f) ∧ FunD K x x (defArgs st) (defBody st) (defScope st) [.int dv] [] f fd ∧ Binds K fd ps [] ∧ RelV (.int dv) u ∧ Binds K fd ps [u]
structure FnE (P : Program) (w : World) (K : PySem.W.Frag) (mg : Str → Option Value) (base : Heap) (x : Str) (k : Nat) (ps : List Str) (m : Bool) (dv : Int) (sp : SpP) : Prop where
  ex : ∃ f fd u, mg x = some (.ref f) ∧ FnOk P w K mg base (L2.CX P w) k f fd ps (LSp K mg m ps.length sp) ∧ PySem.W.keepIn K (.ref f) = true ∧ Binds K fd ps [] ∧ (∃ oc od osl, K.lookup f = some ⟨oc, od, .func fd, osl⟩) ∧ RelV (.int dv) u ∧ Binds K fd ps [u]
section
variable {P : Program} {w : World} {K : PySem.W.Frag} {mg : Str → Option Value} {base : Heap}
theorem FnE.full {x : Str} {k : Nat} {ps : List Str} {m : Bool} {dv : Int} {sp : SpP} (F : FnE P w K mg base x k ps m dv sp) : FnP P w K mg base x k ps m sp := by
  obtain ⟨f, fd, u, h1, G, h2, b, l, _⟩ := F.ex
  exact ⟨f, fd, h1, G, h2, b, l⟩
theorem DfE.okQ {x : Str} {st : Stmt} {N ps : List Str} {dv : Int} {k : Nat} {m : Bool} {sp : SpP} (Dd : DfE K mg x st ps dv) (S : FnScope N ps (defScope st))
    (hbody : ∀ (f : Addr) (cdv : Value) (A : Around) (outer : List Env) (s : Shared) (H : Hp) (E : XK), Room k (A.deeper (envOfC x (defScope st) s.heap.objs.size f cdv)) → Takes (cxOf (L2.CX P w) P w K mg base N x (defScope st) f cdv A outer s H E) (fun cls d _ H => E cls d H) →
      PassesOwn (model P w) (cxOf (L2.CX P w) P w K mg base N x (defScope st) f cdv A outer s H E).A (cxOf (L2.CX P w) P w K mg base N x (defScope st) f cdv A outer s H E).env (cxOf (L2.CX P w) P w K mg base N x (defScope st) f cdv A outer s H E).xe →
      ∃ t, PSsp (fun cls d _ H => E cls d H) m (cxOf (L2.CX P w) P w K mg base N x (defScope st) f cdv A outer s H E) (defBody st) t ∧ ∀ ds M (E0 : XC) (Q0 : D → PHp → Prop), ds.length = ps.length → sp ds M E0 Q0 → t (fnX E0) (endsK Q0) (startP N ds) M) : FnE P w K mg base x (k + 1) ps m dv sp := by
  obtain ⟨f, fd, u, h1, F, b, ru, b2⟩ := Dd.ex
  obtain ⟨oc, od, dV, kV, doc, pm, an, cdv0, ct, osl, e1, lk, _⟩ := F.ex
  refine ⟨f, fd, u, h1, F.ok S (fun vs H Q E h => h.1) (fun cdv A outer s H vs Q E hr h => ?_), F.kp, b, ⟨oc, od, osl, lk⟩, ru, b2⟩
  obtain ⟨t, ht, hq⟩ := hbody f cdv A outer s H E hr (takes_of rfl rfl rfl rfl) (passes_of rfl)
  exact ⟨_, ht, ls_start h hq⟩
end
section
variable {W : WX} {X : Cx} {x : Str} {k : Nat} {ps : List Str} {m : Bool} {sp : SpP} {e : Expr} {es : List Expr} {ta : TAp} {p pos : Pos} {dv : Int}
theorem pp_fnD (tk : Takes X W) (F : FnE X.prog X.w X.K X.mg X.base x k ps m dv sp) (hr : Room k X.A) (hg : Gl X x) (ha : PAp W X (e :: es) ta) (hdb : (x == ("__debug__" : Str)) = false := by decide)
    (he : starEach (e :: es) X.env = (false, eval e X.env) :: starEach es X.env := by rfl) (hpl : (backTo pos (starEach es X.env)).any (·.1) = false := by rfl) :
    PEp W X (.Call (.Name x p) (e :: es) [] pos) (pCall ps.length sp [.int dv] ta) := by
  obtain ⟨f, fd, u, h1, G, h2, _, _, ru, b⟩ := F.ex
  exact PE.imp (pe_callSD G hr hg h1 h2 b (.cons ru .nil) (passAt tk) ha hdb he hpl) fun σ H Q h => call_lift (fun _ _ => .one (.int dv)) h
theorem po_fnD (tk : Takes X W) (F : FnE X.prog X.w X.K X.mg X.base x k ps true dv sp) (hr : Room k X.A) (hg : Gl X x) (ha : PAp W X (e :: es) ta) (hdb : (x == ("__debug__" : Str)) = false := by decide)
    (he : starEach (e :: es) X.env = (false, eval e X.env) :: starEach es X.env := by rfl) (hpl : (backTo pos (starEach es X.env)).any (·.1) = false := by rfl) :
    PEo W X (.Call (.Name x p) (e :: es) [] pos) (pCallO ps.length sp [.int dv] ta) := by
  obtain ⟨f, fd, u, h1, G, h2, _, _, ru, b⟩ := F.ex
  exact PE.imp (pe_callSD G hr hg h1 h2 b (.cons ru .nil) (passAt tk) ha hdb he hpl) fun σ H Q h => call_lifto (fun _ _ => .one (.int dv)) h
end
section
variable {K : PySem.W.Frag} {h : Heap} {mg : Str → Option Value} {x : Str} {st : Stmt} {ps : List Str} {dv : Int}
abbrev DfEOf (_ : K.In h) (mg : Str → Option Value) (x : Str) (st : Stmt) (ps : List Str) (dv : Int) : Prop := DfE K mg x st ps dv
theorem dfe_mk {f T : Addr} {oc : Value} {od an : Option Addr} {osl : Array (Option Value)} {kV doc pm cdv ct : Value} {oT : Obj} {tn : Nat} {t1 : Tok} {n : Nat} (X : K.In h) (G : h.Ns mainGlobals mg) (a : PySem.W.nsIn K mainGlobals x = some (some (.ref f)))
    (l : K.lookup f = some ⟨oc, od, .func (PySem.W.fnOf x x (defArgs st) (defBody st) (defScope st) (.ref T) kV doc pm an cdv ct), osl⟩) (ci : PySem.W.codeIn K cdv x = true) (k : PySem.W.keepIn K (.ref f) = true)
    (lT : K.lookup T = some oT) (eT : oT.data = .seq #[.int dv t1] tn) (hn : ps.length = n + 1)
    (hb1 : ∀ (T : Addr) (kV doc pm : Value) (an : Option Addr) (cdv ct : Value) (us its : List Value), us.length = n + 1 → its.length = 1 → ∃ k, bindArgs (PySem.W.fnOf x x (defArgs st) (defBody st) (defScope st) (.ref T) kV doc pm an cdv ct) ⟨us, []⟩ = seqItems? (.ref T) >>= k ∧ k (some its.toArray) = pure (ps.zip (us ++ its.drop 1)))
    (hb0 : ∀ (T : Addr) (kV doc pm : Value) (an : Option Addr) (cdv ct : Value) (us its : List Value), us.length = n → its.length = 1 → ∃ k, bindArgs (PySem.W.fnOf x x (defArgs st) (defBody st) (defScope st) (.ref T) kV doc pm an cdv ct) ⟨us, []⟩ = seqItems? (.ref T) >>= k ∧ k (some its.toArray) = pure (ps.zip (us ++ its.drop 0))) : DfEOf X mg x st ps dv := by
  have F : FunD K x x (defArgs st) (defBody st) (defScope st) [.int dv] [] f (PySem.W.fnOf x x (defArgs st) (defBody st) (defScope st) (.ref T) kV doc pm an cdv ct) := ⟨⟨oc, od, .ref T, kV, doc, pm, an, cdv, ct, osl, rfl, l, ci, .inr ⟨by simp, T, oT, [.int dv t1], tn, rfl, lT, eT, .cons ⟨t1, rfl⟩ .nil⟩, .inl rfl⟩, k⟩
  obtain ⟨d1, r1, b1⟩ := F.binds1 (ps := ps) (n + 1) 1 (by simp) (by rw [hn]; rfl) hb1
  obtain ⟨d0, r0, b0⟩ := F.binds1 (ps := ps) n 0 (by simp) (by rw [hn]; rfl) hb0
  cases r1
  cases r0 with
  | cons r r' =>
    cases r'
    exact ⟨f, _, _, PySem.W.mg_of X G a, F, b1, r, b0⟩
end
/-! ### an __init__ whose default is the empty tuple -/
structure KDf2 (K : PySem.W.Frag) (mg : Str → Option Value) (C qual : Str) (st : Stmt) (kws : List (Str × V)) : Prop where
  ex : ∃ f fd Ca e0, mg C = some (.ref Ca) ∧ Mk K Ca f ∧ FunD K "__init__" qual (defArgs st) (defBody st) (defScope st) [.ref e0] kws f fd ∧ WrT K e0 []
section
variable {P : Program} {w : World} {K : PySem.W.Frag} {mg : Str → Option Value} {base : Heap}
theorem KDf2.ok {C qual : Str} {st : Stmt} {kws : List (Str × V)} {N ps : List Str} {k : Nat} {sp : SpP} {KB : FuncData → List Str → Prop} (Dd : KDf2 K mg C qual st kws) (S : FnScope N ps (defScope st))
    (hKB : ∀ f fd e0, FunD K "__init__" qual (defArgs st) (defBody st) (defScope st) [.ref e0] kws f fd → WrT K e0 [] → KB fd ps)
    (hbody : ∀ (f : Addr) (cdv : Value) (A : Around) (outer : List Env) (s : Shared) (H : Hp) (E : XK), Room k (A.deeper (envOfC qual (defScope st) s.heap.objs.size f cdv)) → Takes (cxOf (L2.CX P w) P w K mg base N qual (defScope st) f cdv A outer s H E) (fun cls d _ H => E cls d H) →
      PassesOwn (model P w) (cxOf (L2.CX P w) P w K mg base N qual (defScope st) f cdv A outer s H E).A (cxOf (L2.CX P w) P w K mg base N qual (defScope st) f cdv A outer s H E).env (cxOf (L2.CX P w) P w K mg base N qual (defScope st) f cdv A outer s H E).xe →
      ∃ t, PSsp (fun cls d _ H => E cls d H) false (cxOf (L2.CX P w) P w K mg base N qual (defScope st) f cdv A outer s H E) (defBody st) t ∧ ∀ ds M (E0 : XC) (Q0 : D → PHp → Prop), ds.length = ps.length → sp ds M E0 Q0 → t (fnX E0) (endsK Q0) (startP N ds) M) : MkF P w K mg base C (k + 1) ps.length sp KB := by
  obtain ⟨f, fd, Ca, e0, h1, h2, F, W⟩ := Dd.ex
  refine ⟨f, fd, ps, Ca, h1, h2, F.ok S (fun vs H Q E h => h.1) (fun cdv A outer s H vs Q E hr h => ?_), hKB f fd e0 F W⟩
  obtain ⟨t, ht, hq⟩ := hbody f cdv A outer s H E hr (takes_of rfl rfl rfl rfl) (passes_of rfl)
  exact ⟨_, ht, ls_start h hq⟩
end
section
variable {K : PySem.W.Frag} {h : Heap} {mg : Str → Option Value} {C qual : Str} {st : Stmt} {Ca f : Addr} {oc : Value} {od an : Option Addr} {osl : Array (Option Value)} {doc pm cdv ct : Value}
abbrev KDf2Of (_ : K.In h) (mg : Str → Option Value) (C qual : Str) (st : Stmt) (kws : List (Str × V)) : Prop := KDf2 K mg C qual st kws
theorem kdf2_mk {T Dk e0 : Addr} {oT oE : Obj} {tn en : Nat} {k1 k2 : Str} {i1 i2 : Int} {t1 t2 : Tok} (X : K.In h) (G : h.Ns mainGlobals mg) (a : PySem.W.nsIn K mainGlobals C = some (some (.ref Ca))) (mk : PySem.W.makesIn K Ca = true) (at_ : PySem.W.findIn K (.ref Ca) "__init__" = some (some (.ref f))) (fn : PySem.W.isFn K (.ref f) = true) (kp : PySem.W.keepIn K (.ref Ca) = true)
    (l : K.lookup f = some ⟨oc, od, .func (PySem.W.fnOf "__init__" qual (defArgs st) (defBody st) (defScope st) (.ref T) (.ref Dk) doc pm an cdv ct), osl⟩) (ci : PySem.W.codeIn K cdv qual = true) (k : PySem.W.keepIn K (.ref f) = true)
    (lT : K.lookup T = some oT) (eT : oT.data = .seq #[.ref e0] tn) (n1 : PySem.W.nsIn K Dk k1 = some (some (.int i1 t1))) (n2 : PySem.W.nsIn K Dk k2 = some (some (.int i2 t2)))
    (lE : K.lookup e0 = some oE) (eC : oE.cls = .type "tuple") (eE : oE.data = .seq #[] en) : KDf2Of X mg C qual st [(k1, .int i1), (k2, .int i2)] := by
  refine ⟨f, _, Ca, e0, PySem.W.mg_of X G a, ⟨mk, at_, fn, kp⟩, ⟨⟨oc, od, .ref T, .ref Dk, doc, pm, an, cdv, ct, osl, rfl, l, ci, .inr ⟨by simp, T, oT, [.ref e0], tn, rfl, lT, eT, .cons rfl .nil⟩, .inr ⟨Dk, rfl, fun q hq => ?_⟩⟩, k⟩, ⟨⟨oE, #[], en, lE, eC, eE, Nat.zero_le _, .nil⟩, .inl rfl⟩⟩
  simp only [List.mem_cons, List.not_mem_nil, or_false] at hq
  rcases hq with rfl | rfl
  · exact ⟨_, n1, _, rfl⟩
  · exact ⟨_, n2, _, rfl⟩
end
end CM

/-! the pure layer: lambdas with parameters and captured names -/
namespace CM
open PySem PySem.Spec PyProof.Rows L2
def Cap.At (C : Cap) (h : Heap) (H : Hp) : Prop := NdefX.CellsAt C.cl C.fr C.ws h H
def capOf (X : Cx) (L : LamRec) : List (Str × Addr) := cloFrom X.env.cells L.scope.names []
section
variable {X : Cx} {pins : List (Addr × Obj)} {σ : L2.St} {H : Hp} {s : Shared} {C : Cap}
theorem Cap.At.later (c : C.At X.s_0.heap X.H_0) (hx : X.ex = []) (I : Inv X pins σ H s) : C.At s.heap H := by
  have nx : ∀ a : Addr, a ∉ X.ex := fun a => by rw [hx]; simp
  have kp : ∀ y a, C.cl.lookup y = some a → ∀ v, X.s_0.heap.IsCell a v → s.heap.IsCell a v := fun y a e v ⟨o, ho, hd⟩ => by
    obtain ⟨sl, q⟩ := I.base.any ho (c.all y a e).1 (nx a)
    exact ⟨_, q, hd⟩
  refine ⟨c.len, fun y a e => ?_, c.inj, fun i y e => ?_⟩
  · obtain ⟨n, v, z⟩ := c.all y a e
    refine ⟨?_, v, kp y a e v z⟩
    obtain ⟨o, ho, _⟩ := z
    exact I.base.free a o ho n (nx a)
  · obtain ⟨a, ha, hv⟩ := c.has i y e
    refine ⟨a, ha, fun v ev => ?_⟩
    obtain ⟨u, r, z⟩ := hv v ev
    exact ⟨u, r, kp y a ha _ z⟩
/-- a lambda's object just made is known from now on -/
theorem inv_lam {L : LamRec} {cl : List (Str × Addr)} {c : Addr} {t' : Nat} {pm ctv : Value} (I : Inv X pins σ H s) :
    Inv X pins σ (upd H s.heap.objs.size (LamO s.heap.objs.size L cl c)) { s with heap := s.heap.push (PySem.W.kla_obj "<lambda>" L.qual L.params L.body L.scope cl pm c ctv), toks := t' } := by
  refine I.laid (a := s.heap.objs.size) (fun b u e => Heap.get?_push_of_some _ e) (Nat.le_refl _) ?_
  have z : (s.heap.push (PySem.W.kla_obj "<lambda>" L.qual L.params L.body L.scope cl pm c ctv)).get? s.heap.objs.size = some (PySem.W.kla_obj "<lambda>" L.qual L.params L.body L.scope cl pm c ctv) := Heap.get?_push_size _ rfl
  exact ⟨⟨_, _, pm, ctv, z⟩, ⟨_, z⟩, fun h1 h2 ⟨od, sl, p, t, e⟩ st => ⟨od, sl, p, t, st _ e⟩⟩
theorem lam_made {L : LamRec} {c P : Addr} {pos : Pos} {E : Value → Shared → Prop} {Q : Value → Shared → Prop} (I : Inv X pins σ H s) (TB : LamX.TabB X.base X.mg c P) (hcode : X.env.code = .ref c) (hq : L.qual = X.env.qual ++ "<lambda>") (hT : LamX.TabS H P L.qual)
    (hdef : defaultsOf L.params X.env = ([], [])) (hfree : ∀ y ∈ L.scope.names, y.2 = .free → ∃ c, X.env.cells.lookup y.1 = some c)
    (h : ∀ (f c' : Addr) (Ha : Hp) (ps : Array Value) (s' : Shared), (Ha = H ∨ (H c' = none ∧ Ha = upd H c' (LamX.CodeO c' L.qual))) → Ha c' = some (LamX.CodeO c' L.qual) → Ha f = none → LamX.TabS (upd (upd Ha f (LamO f L (capOf X L) c')) P (.tbl ps)) P L.qual →
      Inv X pins σ (upd (upd Ha f (LamO f L (capOf X L) c')) P (.tbl ps)) s' → Q (.ref f) s') :
    wpAny (model X.prog X.w) X.A (eval (.Lambda L.params L.body L.scope pos) X.env) Q E s := by
  obtain ⟨ps, hP, ht, ha⟩ := id hT
  refine PySem.W.kla_eval hdef ?_
  rw [← hq]
  have bP : s.heap.BuiltinsAt X.mg P := TB.bm.keeps I.bk
  have gP : s.heap.get? P = some { cls := .none, data := .fields ps } := I.hok P _ hP
  cases hc : codeAmong pos ps.toList with
  | none =>
    refine PySem.W.kla_makeFunction (mg := X.mg) (c := c) (P := P) (ps := ps) (closure_ok hfree) I.ok.glob (I.mod.glob.keeps I.bk) hcode (TB.code.keeps I.bk) gP ht hc TB.gP bP fun c' ctv h' tk hx hge hlt hrec htb => ?_
    obtain ⟨c2, oc, vs, t, e2, hoc, hd, hv⟩ := hrec
    cases e2
    have nC : H c' = none := I.hok.fresh hge
    have I1 := LamX.inv_table (t' := tk) (q := L.qual) (more := #[rawInt pos.line, rawInt pos.col, .ref c']) (h' := h') I hP (fun b o hb e => hx b o hb e) htb hge ⟨oc, vs, t, hoc, hd, hv⟩
    have nF := I1.hok.fresh (Nat.le_refl _)
    have I2 := inv_lam (L := L) (cl := capOf X L) (c := c') (t' := tk) (pm := (X.mg "__name__").getD .none) (ctv := ctv) I1
    have nPc : P ≠ c' := ne_of_none hP nC
    have nfc : h'.objs.size ≠ c' := Nat.ne_of_gt hlt
    have nfP : h'.objs.size ≠ P := fun z => by
      have nF : upd (upd H P (.tbl (ps ++ #[rawInt pos.line, rawInt pos.col, .ref c']))) c' (LamX.CodeO c' L.qual) h'.objs.size = none := nF
      rw [z, upd_ne nPc, upd_same] at nF
      cases nF
    have eH : upd (upd (upd H P (.tbl (ps ++ #[rawInt pos.line, rawInt pos.col, .ref c']))) c' (LamX.CodeO c' L.qual)) h'.objs.size (LamO h'.objs.size L (capOf X L) c') = upd (upd (upd H c' (LamX.CodeO c' L.qual)) h'.objs.size (LamO h'.objs.size L (capOf X L) c')) P (.tbl (ps ++ #[rawInt pos.line, rawInt pos.col, .ref c'])) := by
      funext b
      by_cases b1 : b = h'.objs.size
      · subst b1
        rw [upd_same, upd_ne nfP, upd_same]
      · by_cases b2 : b = c'
        · subst b2
          rw [upd_ne b1, upd_same, upd_ne (Ne.symm nPc), upd_ne b1, upd_same]
        · by_cases b3 : b = P
          · subst b3
            rw [upd_ne b1, upd_ne b2, upd_same, upd_same]
          · rw [upd_ne b1, upd_ne b2, upd_ne b3, upd_ne b3, upd_ne b1, upd_ne b2]
    have nF' : upd H c' (LamX.CodeO c' L.qual) h'.objs.size = none := by
      have nF : upd (upd H P (.tbl (ps ++ #[rawInt pos.line, rawInt pos.col, .ref c']))) c' (LamX.CodeO c' L.qual) h'.objs.size = none := nF
      rw [upd_ne nfc] at nF ⊢
      rw [upd_ne nfP] at nF
      exact nF
    refine h h'.objs.size c' (upd H c' (LamX.CodeO c' L.qual)) (ps ++ #[rawInt pos.line, rawInt pos.col, .ref c']) _ (.inr ⟨nC, rfl⟩) upd_same nF' ?_ (by rw [← eH]; exact I2)
    have eL : (ps ++ #[rawInt pos.line, rawInt pos.col, .ref c']).toList = ps.toList ++ [rawInt pos.line, rawInt pos.col, .ref c'] := by simp
    refine ⟨_, upd_same, by rw [eL]; exact PySem.TriplesOk_snoc _ _ _ _ ht, fun p' cv hcv => ?_⟩
    rw [eL] at hcv
    rcases LamX.among_app _ ht hcv with z | z
    · obtain ⟨c0, e1, e2⟩ := ha p' cv z
      refine ⟨c0, e1, ?_⟩
      have n1 : c0 ≠ P := fun q => by
        rw [q, hP] at e2
        exact LamX.codeO_ne _ (Option.some.inj e2).symm
      have n2 : c0 ≠ c' := ne_of_none e2 nC
      have n3 : c0 ≠ h'.objs.size := ne_of_none (show upd H c' (LamX.CodeO c' L.qual) c0 = _ from (upd_ne n2).trans e2) nF'
      rw [upd_ne n1, upd_ne n3, upd_ne n2]
      exact e2
    · refine ⟨c', z, ?_⟩
      rw [upd_ne (Ne.symm nPc), upd_ne (Ne.symm nfc), upd_same]
  | some cv =>
    obtain ⟨c', e, hco⟩ := ha pos cv hc
    subst e
    refine PySem.W.kla_makeFunctionHit (mg := X.mg) (c := c) (P := P) (ps := ps) (closure_ok hfree) I.ok.glob (I.mod.glob.keeps I.bk) hcode (TB.code.keeps I.bk) gP ht hc bP fun ctv h' tk hx hsz => ?_
    have I1 : Inv X pins σ H { s with heap := h', toks := tk } := I.kept hx
    have nF : H h'.objs.size = none := I1.hok.fresh (Nat.le_refl _)
    have I2 := inv_lam (L := L) (cl := capOf X L) (c := c') (t' := tk) (pm := (X.mg "__name__").getD .none) (ctv := ctv) I1
    have nfP : P ≠ h'.objs.size := ne_of_none hP nF
    have eH : upd H h'.objs.size (LamO h'.objs.size L (capOf X L) c') = upd (upd H h'.objs.size (LamO h'.objs.size L (capOf X L) c')) P (.tbl ps) := by
      funext b
      by_cases b3 : b = P
      · subst b3
        rw [upd_same, upd_ne nfP, hP]
      · rw [upd_ne b3]
    refine h h'.objs.size c' H ps _ (.inl rfl) hco nF ?_ (by rw [← eH]; exact I2)
    rw [← eH]
    exact hT.ext fun b o e => (upd_ne (ne_of_none e nF)).trans e
end
/-! ### in the pure world -/
def pLam (P : Addr) (L : LamRec) (cl : List (Str × Addr)) : TEp := fun ρ M E Q => M P = some (.tbl L.qual) ∧ ∀ f, Q (.lam L f cl) ρ M
section
variable {W : WX} {X : Cx}
theorem pp_lam {L : LamRec} {params : Arguments} {body : Expr} {scope : Scope} {pos : Pos} {c P : Addr} (TB : LamX.TabB X.base X.mg c P) (hcode : X.env.code = .ref c) (hL : L = ⟨X.env.qual ++ "<lambda>", params, body, scope⟩)
    (hfree : ∀ y ∈ scope.names, y.2 = .free → X.env.scope.names.lookup y.1 = some .cell ∨ X.env.scope.names.lookup y.1 = some .free) (hdef : defaultsOf params X.env = ([], []) := by rfl) : PEp W X (.Lambda params body scope pos) (pLam P L (capOf X L)) := by
  have e0 : L.qual = X.env.qual ++ "<lambda>" := by rw [hL]
  have e1 : params = L.params := by rw [hL]
  have e2 : body = L.body := by rw [hL]
  have e3 : scope = L.scope := by rw [hL]
  clear hL
  subst e1 e2 e3
  refine ⟨fun pins s σ H Q I h => ?_⟩
  obtain ⟨w, rfl, B, ρ, Q0, E0, R, ⟨hM, h⟩, k, x⟩ := h
  have hT : LamX.TabS w.H P L.qual := (R.ok.cells P _ hM).2
  refine lam_made (L := L) I TB hcode e0 hT hdef (fun y hy e => (hfree y hy e).elim (fun z => I.ok.has _ (.inl z)) fun z => I.ok.has _ (.inr z)) fun f c' Ha ps s' hHa hc' hf hT' I' => ?_
  have hPw : w.H P ≠ none := by
    obtain ⟨ps0, e, _⟩ := hT
    rw [e]
    exact fun z => by cases z
  have hPa : Ha P ≠ none := by
    rcases hHa with rfl | ⟨n, rfl⟩
    · exact hPw
    · rw [upd_ne (fun z => hPw (by rw [z]; exact n))]
      exact hPw
  obtain ⟨wa, ea, ka, eM, Ra⟩ : ∃ wa : Wd, wa.H = Ha ∧ w.ke wa ∧ wa.M = w.M ∧ Rl X.K X.mg B wa ρ σ := by
    rcases hHa with rfl | ⟨n, rfl⟩
    · exact ⟨w, rfl, Ke.refl _ _, rfl, R⟩
    · exact ⟨w.lay c' _, rfl, lay_ke n, rfl, R.lay n⟩
  subst ea
  have nfP : P ≠ f := fun z => hPa (by rw [z]; exact hf)
  have R1 : Rl X.K X.mg B (wa.lay f (LamO f L (capOf X L) c')) ρ σ := Ra.lay hf
  have hM1 : (wa.lay f (LamO f L (capOf X L) c')).M P = some (.tbl L.qual) := by
    show wa.M P = _
    rw [eM]
    exact hM
  obtain ⟨k2, R2⟩ := R1.wrC (o := .tbl ps) (d' := .tbl L.qual) hM1 hT'
  rw [← updM_id hM1] at k2 R2
  have hcf : c' ≠ f := fun z => by rw [z, hf] at hc'; cases hc'
  have hcP : c' ≠ P := fun z => by
    have e := (Ra.ok.cells P (.tbl L.qual) (by rw [eM]; exact hM)).2
    rw [z] at hc'
    exact e.next hc'
  refine ⟨.ref f, _, I', rfl, k _ ρ w.M (h f) ⟨wa.Z, wa.M, upd (upd wa.H f (LamO f L (capOf X L) c')) P (.tbl ps)⟩ _ eM ((ka.trans (lay_ke hf)).trans k2) R2 (.lam (c := c') ?_ ?_)⟩
  · show upd (upd wa.H f _) P _ f = _
    rw [upd_ne (Ne.symm nfP), upd_same]
  · show upd (upd wa.H f _) P _ c' = _
    rw [upd_ne hcP, upd_ne hcf]
    exact hc'
end
/-! ### the promise of a lambda: arguments, then what it captured -/
structure LamP (P : Program) (w : World) (K : PySem.W.Frag) (mg : Str → Option Value) (base : Heap) (k : Nat) (L : LamRec) (n : Nat) (fr : List Str) (sp : SpP) : Prop where
  run : ∀ (A : Around) (outer : List Env) (s : Shared) (H : Hp) (us : List Value) (vs cs : List V) (f c : Addr) (C : Cap) (Q : VK) (E : XK), Room k A → Env0 P w K mg base A outer s H → H f = some (LamO f L C.cl c) → H c = some (LamX.CodeO c L.qual) → C.At s.heap H → C.fr = fr → C.ws = cs.map some →
    Vals vs us → vs.length = n → LSp K mg false (n + fr.length) sp (vs ++ cs) H Q E → codeAny (model P w) A (.call (.ref f) ⟨us, []⟩) (CR (L2.CX P w) outer P w H s Q E) s
def lamNF (L : LamRec) (cl : List (Str × Addr)) (c : Addr) : NdefX.NF := ⟨"<lambda>", L.qual, L.params, [], L.scope, cl, c⟩
section
variable {P : Program} {w : World} {K : PySem.W.Frag} {mg : Str → Option Value} {base : Heap}
theorem LamP.mono {j k n : Nat} {L : LamRec} {fr : List Str} {sp : SpP} (o : LamP P w K mg base j L n fr sp) (h : j ≤ k) : LamP P w K mg base k L n fr sp :=
  ⟨fun A outer s H us vs cs f c C Q E hr => o.run A outer s H us vs cs f c C Q E (hr.mono h)⟩
theorem le_start {N : List Str} {n : Nat} {sp : SpP} {vs : List V} {H : Hp} {Q : VK} {E : XK} {t : TEp} (h : LSp K mg false n sp vs H Q E) (ht : ∀ ds M (E0 : XC) (Q0 : D → PHp → Prop), ds.length = n → sp ds M E0 Q0 → t (startP N ds) M (fun c g _ M => E0 c g M) (fun d _ M => Q0 d M)) :
    LE K mg (fun cls d _ H => E cls d H) t (L2.start N vs) H Q := by
  obtain ⟨hn, w, rfl, ds, Q0, E0, ok, r, h, kq, kx⟩ := h
  refine ⟨w, rfl, ⟨w, []⟩, startP N ds, _, _, start_rl ok r, ht ds w.M E0 Q0 (by rw [← r.len]; exact hn) h, fun d ρ' M' q w' v e k R rs => ?_, fun c g ρ' M' q w' cls dx e k R xr => ?_⟩
  · refine kq d M' q w' v e R.ok R.le ?_
    unfold ResC
    rw [if_neg (by simp)]
    exact rs
  · exact kx c g M' q w' cls dx e R.ok R.le xr
theorem lamP_of {N ps fr : List Str} {L : LamRec} {k : Nat} {sp : SpP} (S : NdefX.NScope N ps fr L.scope)
    (hb : ∀ (cl : List (Str × Addr)) (pm : Value) (c : Addr) (ctv : Value) (us : List Value), us.length = ps.length → bindArgs (PySem.W.kla_fn "<lambda>" L.qual L.params L.body L.scope cl pm (.ref c) ctv) ⟨us, []⟩ = pure (ps.zip us))
    (hbody : ∀ (f : Addr) (cl : List (Str × Addr)) (c : Addr) (A : Around) (outer : List Env) (s : Shared) (H : Hp) (E : XK), Room k (A.deeper (NdefX.envF (lamNF L cl c) f s.heap.objs.size)) → Takes (NdefX.ncx (L2.CX P w) P w K mg base N (lamNF L cl c) f A outer s H E) (fun cls d _ H => E cls d H) →
      PassesOwn (model P w) (NdefX.ncx (L2.CX P w) P w K mg base N (lamNF L cl c) f A outer s H E).A (NdefX.ncx (L2.CX P w) P w K mg base N (lamNF L cl c) f A outer s H E).env (NdefX.ncx (L2.CX P w) P w K mg base N (lamNF L cl c) f A outer s H E).xe →
      ∃ t, PEp (fun cls d _ H => E cls d H) (NdefX.ncx (L2.CX P w) P w K mg base N (lamNF L cl c) f A outer s H E) L.body t ∧ ∀ ds M (E0 : XC) (Q0 : D → PHp → Prop), ds.length = ps.length + fr.length → sp ds M E0 Q0 → t (startP N ds) M (fun c g _ M => E0 c g M) (fun d _ M => Q0 d M)) :
    LamP P w K mg base (k + 1) L ps.length fr sp := by
  refine ⟨fun A outer s H us vs cs f c C Q E hr e0 hf hc cells efr ews r hl hsp => ?_⟩
  have lim : s.heap.NoLimit := e0.mod.nolimit.keeps fun b o e => (e0.bs b o e).1
  have cells : NdefX.CellsAt C.cl fr (cs.map some) s.heap H := by
    rw [← efr, ← ews]
    exact cells
  obtain ⟨⟨od, sl, pm, ctv, ho⟩, _, _⟩ := e0.hok f _ hf
  refine PySem.W.kla_callFunE hr.depth ho rfl S.co S.gen rfl (NdefX.codeO_at e0.hok hc) ?_
  rw [hb C.cl pm c ctv us (by rw [← r.length]; exact hl)]
  refine wpAny_pure (wpAny_newFunctionEnv S.nocell (fun ⟨n, _⟩ hy => S.par n (List.of_mem_zip hy).1) (fun h₁ hns hsb => ⟨lim.fresh _ hsb, ?_⟩) S.kind)
  show codeAny _ _ (.expr L.body (NdefX.envF (lamNF L C.cl c) f s.heap.objs.size)) _ _
  have kp : ∀ b o, s.heap.get? b = some o → h₁.get? b = some o := fun b o e => hsb.extBut b o (Nat.ne_of_lt (Heap.lt_size e)) (Heap.get?_push_of_some _ e)
  obtain ⟨t, ht, hq⟩ := hbody f C.cl c A outer s H E (hr.deeper _) (takes_of rfl rfl rfl rfl) (passes_of rfl)
  have J : Inv (NdefX.ncx (L2.CX P w) P w K mg base N (lamNF L C.cl c) f A outer s H E) [] (NdefX.startF N vs (cs.map some)) H { s with heap := h₁, toks := s.toks + (ps.zip us).length } := NdefX.inv_startN (F := lamNF L C.cl c) S hr.hd e0 hl r cells hns kp
  have eS : NdefX.startF N vs (cs.map some) = L2.start N (vs ++ cs) := by
    unfold NdefX.startF L2.start
    rw [List.map_append, List.append_assoc, List.length_append, List.length_map, Nat.sub_sub]
  rw [eS] at J
  refine PySem.W.kla_codeExpr (wpAny_mono (ht.run [] _ _ H Q J (le_start hsp hq)) (fun v s' hq => ?_) fun e s' hq => hq)
  obtain ⟨w', H', J', rv, q⟩ := hq
  exact ⟨w', H', J'.os, J'.bare, J'.base, J'.hok, rv, q⟩
end
/-! ### calling one that one was given -/
abbrev LTab := LamRec → List Str → Nat → SpP → Prop
def lt0 : LTab := fun _ _ _ _ => False
def ltC (L0 : LamRec) (fr0 : List Str) (n0 : Nat) (sp0 : SpP) (T : LTab) : LTab := fun L fr n sp => (L = L0 ∧ fr = fr0 ∧ n = n0 ∧ sp = sp0) ∨ T L fr n sp
structure LTok (P : Program) (w : World) (K : PySem.W.Frag) (mg : Str → Option Value) (base : Heap) (k : Nat) (T : LTab) : Prop where
  at_ : ∀ L fr n sp, T L fr n sp → LamP P w K mg base k L n fr sp
def pClo (T : LTab) (CT : Cap → Prop) (t : TEp) (ta : TAp) : TEp := fun ρ M E Q => t ρ M E fun v ρ1 M1 => (∃ L f C cs, v = .clo L f C cs) ∧ ta ρ1 M1 E fun as ρ2 M2 => ∃ L f C cs n sp, v = .clo L f C cs ∧ T L C.fr n sp ∧ CT C ∧ as.length = n ∧ cs.length = C.fr.length ∧ sp (as ++ cs) M2 (kXC E ρ2) (kQC Q ρ2)
section
variable {P : Program} {w : World} {K : PySem.W.Frag} {mg : Str → Option Value} {base : Heap}
theorem ltok0 {k : Nat} : LTok P w K mg base k lt0 := ⟨fun _ _ _ _ z => z.elim⟩
theorem ltokC {j k n : Nat} {L : LamRec} {fr : List Str} {sp : SpP} {T : LTab} (F : LamP P w K mg base j L n fr sp) (h : j ≤ k) (r : LTok P w K mg base k T) : LTok P w K mg base k (ltC L fr n sp T) := ⟨fun L' fr' n' sp' e => by
  rcases e with ⟨rfl, rfl, rfl, rfl⟩ | e
  · exact F.mono h
  · exact r.at_ _ _ _ _ e⟩
end
section
variable {W : WX} {X : Cx} {k : Nat} {fe e : Expr} {es : List Expr} {pos : Pos} {t : TEp} {ta : TAp} {T : LTab} {CT : Cap → Prop}
theorem fnAt_lam {pins : List (Addr × Obj)} {σ : L2.St} {H : Hp} {s : Shared} {f c : Addr} {L : LamRec} {cl : List (Str × Addr)} (I : Inv X pins σ H s) (e : H f = some (LamO f L cl c)) : PySem.W.FnAt f s.heap := by
  obtain ⟨⟨od, sl, pm, ctv, ho⟩, _, _⟩ := I.hok f _ e
  exact ⟨_, od, _, sl, ho⟩
theorem LamP.call {pins : List (Addr × Obj)} {σ : L2.St} {H : Hp} {s : Shared} {Q : VK} {n : Nat} {fr : List Str} {sp : SpP} {L : LamRec} {f c : Addr} {C : Cap} {us : List Value} {vs cs : List V} {E : XS} (F : LamP X.prog X.w X.K X.mg X.base k L n fr sp) (hr : Room k X.A) (hx : PassesAt (L2.CX X.prog X.w) X σ (E σ))
    (I : Inv X pins σ H s) (hf : H f = some (LamO f L C.cl c)) (hc : H c = some (LamX.CodeO c L.qual)) (hC : C.At s.heap H) (efr : C.fr = fr) (ews : C.ws = cs.map some) (r : Vals vs us) (hl : vs.length = n) (h : LSp X.K X.mg false (n + fr.length) sp (vs ++ cs) H Q (E σ)) :
    wpAny (model X.prog X.w) X.A (call (.ref f) us) (EP X pins σ Q) X.xe s := by
  refine wpAny_call (codeAny_mono (F.run X.A X.stack s H us vs cs f c C Q (E σ) hr I.env0 hf hc hC efr ews r hl h) fun r s' hq => ?_)
  cases r with
  | error e => exact hx pins H s e s' I hq
  | ok fl =>
    cases fl with
    | ret u => exact I.after hq
    | next => exact hq.elim
    | brk => exact hq.elim
    | cont => exact hq.elim
theorem pp_clo (tk : Takes X W) (V : LTok X.prog X.w X.K X.mg X.base k T) (hCT : ∀ C, CT C → C.At X.s_0.heap X.H_0) (hex : X.ex = []) (hr : Room k X.A) (hf : PEp W X fe t) (ha : PAp W X (e :: es) ta)
    (hc : eval (.Call fe (e :: es) [] pos) X.env = (do callWith pos (← eval fe X.env) [] (backTo pos (starEach (e :: es) X.env)) (backToKw pos (keywordEach [] X.env))) := by rfl)
    (he : starEach (e :: es) X.env = (false, eval e X.env) :: starEach es X.env := by rfl) (hpl : (backTo pos (starEach es X.env)).any (·.1) = false := by rfl) : PEp W X (.Call fe (e :: es) [] pos) (pClo T CT t ta) := by
  refine ⟨fun pins s σ H Q I h => ?_⟩
  obtain ⟨w, rfl, B, ρ, Q0, E0, R, h, kk, xx⟩ := h
  refine Call_ (thn (hf.run pins s σ w.H (fun v H1 => ∃ w1 ρ1 d, w1.H = H1 ∧ w.ke w1 ∧ Rl X.K X.mg B w1 ρ1 σ ∧ Rep X.K X.mg w1.Z w1.H v d ∧ (∃ L f C cs, d = .clo L f C cs) ∧ ta ρ1 w1.M E0 fun as ρ2 M2 => ∃ L f C cs n sp, d = .clo L f C cs ∧ T L C.fr n sp ∧ CT C ∧ as.length = n ∧ cs.length = C.fr.length ∧ sp (as ++ cs) M2 (kXC E0 ρ2) (kQC Q0 ρ2)) I
    ⟨w, rfl, B, ρ, _, E0, R, h, fun d ρ1 M1 q w1 v e1 k1 R1 r1 => ⟨w1, ρ1, d, rfl, k1, R1, r1, q.1, by rw [e1]; exact q.2⟩, xx⟩) fun u s1 ⟨v, H1, I1, rv, w1, ρ1, d, e1, k1, R1, r1, ⟨L, f, C, cs, ed⟩, q⟩ => ?_) hc
  subst e1 ed
  cases r1 with
  | @clo _ c _ _ cvs _ g1 g2 g3 g4 =>
    cases (show u = Value.ref f from rv)
    refine PySem.W.callWith_F (first := []) (fnAt_lam I1 g1) (thn (ha.run pos pins s1 σ w1.H (fun vs H2 => ∃ w2 ρ2 ds, w2.H = H2 ∧ w1.ke w2 ∧ Rl X.K X.mg B w2 ρ2 σ ∧ Reps X.K X.mg w2.Z w2.H vs ds ∧ ∃ L' f' C' cs' n sp, D.clo L f C cs = .clo L' f' C' cs' ∧ T L' C'.fr n sp ∧ CT C' ∧ ds.length = n ∧ cs'.length = C'.fr.length ∧ sp (ds ++ cs') w2.M (kXC E0 ρ2) (kQC Q0 ρ2)) I1
      ⟨w1, rfl, B, ρ1, _, E0, R1, q, fun ds ρ2 M2 q2 w2 vs e2 k2 R2 r2 => ⟨w2, ρ2, ds, rfl, k2, R2, r2, by rw [e2]; exact q2⟩, xx.ke k1⟩) fun us s2 ⟨vs, H2, I2, r, w2, ρ2, ds, e2, k2, R2, r2, L', f', C', cs', n, sp, ez, hT, hct, hn, hcl, q2⟩ => ?_) he hpl
    subst e2
    cases ez
    have g1' := k2.ext _ _ g1
    have g2' := k2.ext _ _ g2
    have g4' := g4.ke k2
    refine ⟨fnAt_lam I2 g1', ?_⟩
    show wpAny _ _ (call (.ref f) us) _ _ _
    have hlen : vs.length = n := by rw [r2.len]; exact hn
    refine LamP.call (E := WE W) (V.at_ _ _ _ _ hT) hr (passAt tk σ) I2 g1' g2' ((hCT _ hct).later hex I2) rfl g3 r hlen ?_
    refine LSp.call ?_ R2 (r2.app g4') q2 (fun d ρ' M' q' w' v e' k' => kk d ρ' M' q' w' v e' ((k1.trans k2).trans k')) (xx.ke (k1.trans k2))
    rw [List.length_append, hlen, g4.len, hcl]
end
end CM

/-! the pure layer: defs that take lambdas, defs that make them, the end of a law with tables -/
namespace CM
open PySem PySem.Spec PyProof.Rows L2
/-- a def that calls what it is given: CT, the captures that stand -/
structure FnPC (P : Program) (w : World) (K : PySem.W.Frag) (mg : Str → Option Value) (base : Heap) (x : Str) (k : Nat) (ps : List Str) (m : Bool) (sp : (Cap → Prop) → SpP) : Prop where
  ex : ∃ f, mg x = some (.ref f) ∧ PySem.W.keepIn K (.ref f) = true ∧ ∀ (CT : Cap → Prop) (A : Around) (outer : List Env) (s : Shared) (H : Hp) (us : List Value) (vs : List V) (Q : VK) (E : XK), Room k A → Env0 P w K mg base A outer s H → (∀ C, CT C → C.At s.heap H) → Vals vs us →
    LSp K mg m ps.length (sp CT) vs H Q E → codeAny (model P w) A (.call (.ref f) ⟨us, []⟩) (CR (L2.CX P w) outer P w H s Q E) s
section
variable {P : Program} {w : World} {K : PySem.W.Frag} {mg : Str → Option Value} {base : Heap}
theorem Df.okC {x : Str} {st : Stmt} {N ps : List Str} {k : Nat} {m : Bool} {sp : (Cap → Prop) → SpP} (Dd : Df K mg x st ps) (S : FnScope N ps (defScope st))
    (hbody : ∀ (CT : Cap → Prop) (f : Addr) (cdv : Value) (A : Around) (outer : List Env) (s : Shared) (H : Hp) (E : XK), (∀ C, CT C → C.At (cxOf (L2.CX P w) P w K mg base N x (defScope st) f cdv A outer s H E).s_0.heap (cxOf (L2.CX P w) P w K mg base N x (defScope st) f cdv A outer s H E).H_0) →
      Room k (A.deeper (envOfC x (defScope st) s.heap.objs.size f cdv)) → Takes (cxOf (L2.CX P w) P w K mg base N x (defScope st) f cdv A outer s H E) (fun cls d _ H => E cls d H) →
      PassesOwn (model P w) (cxOf (L2.CX P w) P w K mg base N x (defScope st) f cdv A outer s H E).A (cxOf (L2.CX P w) P w K mg base N x (defScope st) f cdv A outer s H E).env (cxOf (L2.CX P w) P w K mg base N x (defScope st) f cdv A outer s H E).xe →
      ∃ t, PSsp (fun cls d _ H => E cls d H) m (cxOf (L2.CX P w) P w K mg base N x (defScope st) f cdv A outer s H E) (defBody st) t ∧ ∀ ds M (E0 : XC) (Q0 : D → PHp → Prop), ds.length = ps.length → sp CT ds M E0 Q0 → t (fnX E0) (endsK Q0) (startP N ds) M) : FnPC P w K mg base x (k + 1) ps m sp := by
  obtain ⟨f, fd, h1, F, b⟩ := Dd.ex
  obtain ⟨oc, od, kV, doc, pm, an, cdv, ct, osl, e1, lk, hcd⟩ := F.ex
  subst e1
  refine ⟨f, h1, F.kp, fun CT A outer s H us vs Q E hr e0 hct r h => ?_⟩
  have KX : K.In s.heap := e0.mod.kin.keeps fun b o e => (e0.bs b o e).1
  have hl : vs.length = ps.length := h.1
  have hb := b s us KX (by rw [List.append_nil, ← r.length, hl])
  rw [List.append_nil] at hb
  refine LamX.run_ofS lk hcd S hr e0 hb r hl fun hr' => ?_
  obtain ⟨t, ht, hq⟩ := hbody CT f cdv A outer s H E hct hr' (takes_of rfl rfl rfl rfl) (passes_of rfl)
  exact ⟨_, ht, ls_start h hq⟩
end
/-! ### its call, by the def that made the lambda -/
def capD (ρ : PSt) : List Nat → Option (List D)
  | [] => some []
  | j :: js => match ρ[j]? with
    | some (some (.fz d)) => (capD ρ js).map (d :: ·)
    | _ => none
/-- where the names that a lambda captures stand in the frame that makes it -/
abbrev JTab := LamRec → List Str → List Nat → Prop
def jt0 : JTab := fun _ _ _ => False
def jtC (L0 : LamRec) (fr0 : List Str) (js0 : List Nat) (T : JTab) : JTab := fun L fr js => (L = L0 ∧ fr = fr0 ∧ js = js0) ∨ T L fr js
structure CapOk (sc : Scope) (N : List Str) (L : LamRec) (fr : List Str) (js : List Nat) : Prop where
  free : ∀ y ∈ L.scope.names, y.2 = .free → sc.names.lookup y.1 = some .cell ∨ sc.names.lookup y.1 = some .free
  cap : ∀ y ∈ fr, (y, NameKind.free) ∈ L.scope.names
  js : js.map (fun j => N[j]?) = fr.map some
theorem capOk_by {sc : Scope} {N : List Str} {L : LamRec} {fr : List Str} {js : List Nat} (h : NdefX.ndefB sc L.scope fr = true) (hj : js.map (fun j => N[j]?) = fr.map some) : CapOk sc N L fr js := ⟨NdefX.ndef_free h, NdefX.ndef_fr h, hj⟩
structure JTok (sc : Scope) (N : List Str) (T : JTab) : Prop where
  at_ : ∀ L fr js, T L fr js → CapOk sc N L fr js
theorem jtok0 {sc : Scope} {N : List Str} : JTok sc N jt0 := ⟨fun _ _ _ z => z.elim⟩
theorem jtokC {sc : Scope} {N : List Str} {L : LamRec} {fr : List Str} {js : List Nat} {T : JTab} (c : CapOk sc N L fr js) (r : JTok sc N T) : JTok sc N (jtC L fr js T) := ⟨fun L' fr' js' e => by
  rcases e with ⟨rfl, rfl, rfl⟩ | e
  · exact c
  · exact r.at_ _ _ _ e⟩
theorem caps_slots {K : PySem.W.Frag} {mg : Str → Option Value} {B : Bse} {w : Wd} {ρ : PSt} {σ : L2.St} (R : Rl K mg B w ρ σ) : ∀ {js : List Nat} {cs : List D}, capD ρ js = some cs → ∃ vs : List V, js.map (NdefX.slotAt σ) = vs.map some ∧ Reps K mg w.Z w.H vs cs
  | [], _, h => by
    cases h
    exact ⟨[], rfl, .nil⟩
  | j :: js, cs, h => by
    unfold capD at h
    split at h
    · rename_i d e
      cases q : capD ρ js with
      | none => rw [q] at h; cases h
      | some cs' =>
        rw [q] at h
        cases h
        obtain ⟨vs, e1, r1⟩ := caps_slots R q
        obtain ⟨v, hv, rv⟩ := R.sl.fz j d e
        exact ⟨v :: vs, by rw [List.map_cons, List.map_cons, e1, NdefX.slotAt_of hv], .cons rv r1⟩
    · cases h
theorem capD_len {ρ : PSt} : ∀ {js : List Nat} {cs : List D}, capD ρ js = some cs → cs.length = js.length
  | [], _, h => by cases h; rfl
  | j :: js, cs, h => by
    unfold capD at h
    split at h
    · cases q : capD ρ js with
      | none => rw [q] at h; cases h
      | some cs' =>
        rw [q] at h
        cases h
        rw [List.length_cons, List.length_cons, capD_len q]
    · cases h
def pCallC (n : Nat) (sp : (Cap → Prop) → SpP) (J : JTab) (g : LamRec → List (Str × Addr)) (ta : TAp) : TEp := fun ρ M E Q => ta ρ M E fun ds ρ1 M1 => ∃ L f rest fr js cs, ds = .lam L f (g L) :: rest ∧ J L fr js ∧ capD ρ1 js = some cs ∧ rest.length + 1 = n ∧
  ∀ (CT : Cap → Prop) (C : Cap), CT C → C.fr = fr → cs.length = fr.length → sp CT (.clo L f C cs :: rest) M1 (kXC E ρ1) (kQC Q ρ1)
section
variable {W : WX} {X : Cx} {x : Str} {k : Nat} {ps : List Str} {m : Bool} {sp : (Cap → Prop) → SpP} {e : Expr} {es : List Expr} {ta : TAp} {p pos : Pos} {J : JTab}
theorem pp_fnC (tk : Takes X W) (F : FnPC X.prog X.w X.K X.mg X.base x k ps m sp) (hJ : JTok X.env.scope X.N J) (hr : Room k X.A) (hg : Gl X x) (ha : PAp W X (e :: es) ta) (hdb : (x == ("__debug__" : Str)) = false := by decide)
    (he : starEach (e :: es) X.env = (false, eval e X.env) :: starEach es X.env := by rfl) (hpl : (backTo pos (starEach es X.env)).any (·.1) = false := by rfl) :
    PEp W X (.Call (.Name x p) (e :: es) [] pos) (pCallC ps.length sp J (capOf X) ta) := by
  obtain ⟨g, h1, hk, hrun⟩ := F.ex
  refine ⟨fun pins s σ H Q I h => ?_⟩
  obtain ⟨w, rfl, B, ρ, Q0, E0, R, h, kk, xx⟩ := h
  refine wpAny_Call_Name_kw (ld_glob I hg h1 ?_ hdb)
  refine PySem.W.callWith_K (h₀ := X.base) I.ok.mod.kin hk (thn (ha.run pos pins s σ w.H (fun vs H1 => ∃ w1 ρ1 ds, w1.H = H1 ∧ w.ke w1 ∧ Rl X.K X.mg B w1 ρ1 σ ∧ Reps X.K X.mg w1.Z w1.H vs ds ∧ ∃ L f rest fr js cs, ds = .lam L f (capOf X L) :: rest ∧ J L fr js ∧ capD ρ1 js = some cs ∧ rest.length + 1 = ps.length ∧
      ∀ (CT : Cap → Prop) (C : Cap), CT C → C.fr = fr → cs.length = fr.length → sp CT (.clo L f C cs :: rest) w1.M (kXC E0 ρ1) (kQC Q0 ρ1)) I
    ⟨w, rfl, B, ρ, _, E0, R, h, fun ds ρ1 M1 q w1 vs e1 k1 R1 r1 => ⟨w1, ρ1, ds, rfl, k1, R1, r1, by rw [e1]; exact q⟩, xx⟩) fun us s1 ⟨vs, H1, I1, r, w1, ρ1, ds, e1, k1, R1, r1, L, f, rest, fr, js, cs, ed, hj, hcs, hn, q⟩ => ⟨I1.kIn, ?_⟩) he hpl
  subst e1 ed
  have cok := hJ.at_ _ _ _ hj
  obtain ⟨cvs, ews, rcs⟩ := caps_slots R1 hcs
  have hlc : cs.length = fr.length := by
    have := congrArg List.length cok.js
    rw [List.length_map, List.length_map] at this
    rw [capD_len hcs, this]
  have r1' : Reps X.K X.mg w1.Z w1.H vs (.clo L f ⟨capOf X L, fr, js.map (NdefX.slotAt σ)⟩ cs :: rest) := by
    cases r1 with
    | cons r0 rt =>
      cases r0 with
      | lam g1 g2 => exact .cons (.clo g1 g2 ews rcs) rt
  have hAt : Cap.At ⟨capOf X L, fr, js.map (NdefX.slotAt σ)⟩ s1.heap w1.H := NdefX.cells_of I1 (NdefX.Caps.made I1.ok cok.free cok.cap cok.js)
  have q' := q (fun C => C = ⟨capOf X L, fr, js.map (NdefX.slotAt σ)⟩) _ rfl rfl hlc
  have hL : LSp X.K X.mg m ps.length (sp fun C => C = ⟨capOf X L, fr, js.map (NdefX.slotAt σ)⟩) vs w1.H Q (WE W σ) := LSp.call (by rw [r1'.len]; exact hn) R1 r1' q' (fun d ρ' M' q' w' v e' k' => kk d ρ' M' q' w' v e' (k1.trans k')) (xx.ke k1)
  refine wpAny_call (codeAny_mono (hrun _ X.A X.stack s1 w1.H us vs Q (WE W σ) hr I1.env0 (fun C hC => by rw [hC]; exact hAt) r hL) fun r s' hq => ?_)
  cases r with
  | error e => exact passAt tk σ pins w1.H s1 e s' I1 hq
  | ok fl =>
    cases fl with
    | ret u => exact I1.after hq
    | next => exact hq.elim
    | brk => exact hq.elim
    | cont => exact hq.elim
end
/-! ### a def that makes lambdas -/
structure DfL (K : PySem.W.Frag) (mg : Str → Option Value) (x : Str) (st : Stmt) (ps : List Str) (c : Addr) : Prop where
  ex : ∃ (f : Addr) (oc : Value) (od : Option Addr) (kV doc pm : Value) (an : Option Addr) (ct : Value) (osl : Array (Option Value)), mg x = some (.ref f) ∧ K.lookup f = some ⟨oc, od, .func (PySem.W.fnOf x x (defArgs st) (defBody st) (defScope st) .none kV doc pm an (.ref c) ct), osl⟩ ∧ PySem.W.codeIn K (.ref c) x = true ∧
    PySem.W.keepIn K (.ref f) = true ∧ Binds K (PySem.W.fnOf x x (defArgs st) (defBody st) (defScope st) .none kV doc pm an (.ref c) ct) ps []
section
variable {P : Program} {w : World} {K : PySem.W.Frag} {mg : Str → Option Value} {base : Heap}
theorem DfL.okQ {x : Str} {st : Stmt} {N ps : List Str} {k : Nat} {m : Bool} {sp : SpP} {c : Addr} (Dd : DfL K mg x st ps c) (S : FnScope N ps (defScope st))
    (hbody : ∀ (f : Addr) (A : Around) (outer : List Env) (s : Shared) (H : Hp) (E : XK), Room k (A.deeper (envOfC x (defScope st) s.heap.objs.size f (.ref c))) → Takes (cxOf (L2.CX P w) P w K mg base N x (defScope st) f (.ref c) A outer s H E) (fun cls d _ H => E cls d H) →
      PassesOwn (model P w) (cxOf (L2.CX P w) P w K mg base N x (defScope st) f (.ref c) A outer s H E).A (cxOf (L2.CX P w) P w K mg base N x (defScope st) f (.ref c) A outer s H E).env (cxOf (L2.CX P w) P w K mg base N x (defScope st) f (.ref c) A outer s H E).xe →
      ∃ t, PSsp (fun cls d _ H => E cls d H) m (cxOf (L2.CX P w) P w K mg base N x (defScope st) f (.ref c) A outer s H E) (defBody st) t ∧ ∀ ds M (E0 : XC) (Q0 : D → PHp → Prop), ds.length = ps.length → sp ds M E0 Q0 → t (fnX E0) (endsK Q0) (startP N ds) M) : FnP P w K mg base x (k + 1) ps m sp := by
  obtain ⟨f, oc, od, kV, doc, pm, an, ct, osl, h1, lk, hcd, kp, b⟩ := Dd.ex
  refine ⟨f, _, h1, ⟨fun vs H Q E h => h.1, fun A outer s H args us vs Q E hr e0 hb r h => ?_⟩, kp, b, oc, od, osl, lk⟩
  refine LamX.run_ofS lk hcd S hr e0 hb r h.1 fun hr' => ?_
  obtain ⟨t, ht, hq⟩ := hbody f A outer s H E hr' (takes_of rfl rfl rfl rfl) (passes_of rfl)
  exact ⟨_, ht, ls_start h hq⟩
end
section
variable {K : PySem.W.Frag} {h : Heap} {mg : Str → Option Value}
abbrev DfLOf (_ : K.In h) (mg : Str → Option Value) (x : Str) (st : Stmt) (ps : List Str) (c : Addr) : Prop := DfL K mg x st ps c
theorem dfl_mk {x : Str} {st : Stmt} {ps : List Str} {f c : Addr} {oc : Value} {od an : Option Addr} {osl : Array (Option Value)} {kV doc pm ct : Value} (X : K.In h) (G : h.Ns mainGlobals mg) (a : PySem.W.nsIn K mainGlobals x = some (some (.ref f)))
    (l : K.lookup f = some ⟨oc, od, .func (PySem.W.fnOf x x (defArgs st) (defBody st) (defScope st) .none kV doc pm an (.ref c) ct), osl⟩) (ci : PySem.W.codeIn K (.ref c) x = true) (k : PySem.W.keepIn K (.ref f) = true)
    (hb : ∀ (kV doc pm : Value) (an : Option Addr) (cdv ct : Value) (us : List Value), us.length = ps.length → bindArgs (PySem.W.fnOf x x (defArgs st) (defBody st) (defScope st) .none kV doc pm an cdv ct) ⟨us, []⟩ = pure (ps.zip us)) : DfL K mg x st ps c :=
  ⟨f, oc, od, kV, doc, pm, an, ct, osl, PySem.W.mg_of X G a, l, ci, k, (fun_mk (st := st) l ci k).binds hb⟩
end
/-! ### the end of a law, tables there -/
def spLawT (Ts : List (Addr × Str)) : SpP := fun ds M E Q => ∃ ns : List Int, (ds = [.lst (ns.map D.int)] ∨ ds = [.scr ns]) ∧ (∀ p ∈ Ts, M p.1 = some (.tbl p.2)) ∧ ∀ M', Q (.bl true) M'
def tabM (Ts : List (Addr × Str)) : PHp := fun a => (Ts.lookup a).map D.tbl
theorem tabM_at : ∀ {Ts : List (Addr × Str)}, (Ts.map (·.1)).Nodup → ∀ p ∈ Ts, tabM Ts p.1 = some (.tbl p.2)
  | [], _, _, h => by cases h
  | (a, q) :: Ts, nd, p, hp => by
    rw [List.map_cons, List.nodup_cons] at nd
    unfold tabM
    rcases List.mem_cons.mp hp with rfl | hp
    · rw [List.lookup_cons_self] <;> rfl
    · rw [List.lookup_cons]
      have ne : (p.1 == a) = false := by
        rw [beq_eq_false_iff_ne]
        intro z
        exact nd.1 (by rw [← z]; exact List.mem_map.mpr ⟨p, hp, rfl⟩)
      rw [ne]
      exact tabM_at nd.2 p hp
theorem lookup_memA : ∀ {Ts : List (Addr × Str)} {a : Addr} {q : Str}, Ts.lookup a = some q → (a, q) ∈ Ts
  | [], _, _, e => by cases e
  | (b, x) :: r, a, q, e => by
    rw [List.lookup_cons] at e
    cases hb : a == b with
    | true =>
      rw [hb] at e
      cases e
      rw [beq_iff_eq.mp hb]
      exact List.mem_cons_self ..
    | false =>
      rw [hb] at e
      exact List.mem_cons_of_mem _ (lookup_memA e)
theorem tabM_of {Ts : List (Addr × Str)} {a : Addr} {d : D} (h : tabM Ts a = some d) : ∃ q, (a, q) ∈ Ts ∧ d = .tbl q := by
  unfold tabM at h
  cases e : Ts.lookup a with
  | none => rw [e] at h; cases h
  | some q =>
    rw [e] at h
    cases h
    exact ⟨q, lookup_memA e, rfl⟩
theorem spLawT_of {K : PySem.W.Frag} {mg : Str → Option Value} {Ts : List (Addr × Str)} {a : Addr} {ns : List Int} {H : Hp} (nd : (Ts.map (·.1)).Nodup) (hT : ∀ p ∈ Ts, H p.1 = some (.tbl #[])) (hS : SqL K H a (ns.map V.int)) :
    LSp K mg false 1 (spLawT Ts) [.ref a] H (fun v _ => v = .bl true) fun _ _ _ => False := by
  refine ⟨rfl, ?_⟩
  have w0 : ∀ Z : Addr → Prop, (∀ b, Z b → H b ≠ none) → (∀ b, Z b → ∀ ps, H b ≠ some (.tbl ps)) → Wd.Ok K mg ⟨Z, tabM Ts, H⟩ := fun Z hz hzt => ⟨fun b d e => by
      obtain ⟨q, hm, rfl⟩ := tabM_of e
      exact ⟨fun z => hzt b z _ (hT _ hm), LamX.TabS.nil (hT _ hm)⟩, hz, fun b vs e => by
      show tabM Ts b = none
      cases q : tabM Ts b with
      | none => rfl
      | some d =>
        obtain ⟨q', hm, rfl⟩ := tabM_of q
        have e : H b = some (.tup vs) := e
        have e2 := hT _ hm
        have e2 : H b = _ := e2
        rw [e] at e2
        cases e2⟩
  have fin : ∀ (w : Wd) (d : D), w.H = H → w.M = tabM Ts → w.Ok K mg → Rep K mg w.Z w.H (.ref a) d → (d = .lst (ns.map D.int) ∨ d = .scr ns) → ∃ w : Wd, w.H = H ∧ ∃ ds Q0 E0, w.Ok K mg ∧ Reps K mg w.Z w.H [.ref a] ds ∧ spLawT Ts ds w.M E0 Q0 ∧
      (∀ d M', Q0 d M' → ∀ w' v, w'.M = M' → w'.Ok K mg → Le w w' → ResC K mg false w w' v d → v = .bl true) ∧ (∀ c g M', E0 c g M' → ∀ w' cls dx, w'.M = M' → w'.Ok K mg → Le w w' → XRep K mg w' c g cls dx → False) := fun w d e eM ok r hd =>
    ⟨w, e, [d], fun d _ => d = .bl true, fun _ _ _ => False, ok, .one r, ⟨ns, hd.imp (fun h => by rw [h]) (fun h => by rw [h]), by rw [eM]; exact tabM_at nd, fun _ => rfl⟩, fun d M' q w' v _ _ _ rs => by
      subst q
      have rs : Rep K mg w'.Z w'.H v (.bl true) := rs
      cases rs
      rfl, fun _ _ _ z => z.elim⟩
  rcases hS with (hS | ⟨o, hS⟩) | hS
  · exact fin ⟨fun b => b = a, tabM Ts, H⟩ _ rfl rfl (w0 _ (fun b hb => by rw [hb, hS]; exact fun z => by cases z) (fun b hb ps => by rw [hb, hS]; exact fun z => by cases z)) (.lst rfl hS (reps_of_ints ns)) (.inl rfl)
  · exact fin ⟨fun _ => False, tabM Ts, H⟩ _ rfl rfl (w0 _ (fun b hb => hb.elim) fun b hb => hb.elim) (.scr (.inl ⟨o, hS⟩)) (.inr rfl)
  · exact fin ⟨fun _ => False, tabM Ts, H⟩ _ rfl rfl (w0 _ (fun b hb => hb.elim) fun b hb => hb.elim) (.scr (.inr hS)) (.inr rfl)
/-- a def's code object and its table -/
structure TabAt (K : PySem.W.Frag) (h : Heap) (c P : Addr) : Prop where
  emp : h.get? P = some { cls := .none, data := .fields #[] }
  out : K.lookup P = none
  hd : PySem.W.CodeHd h c P
theorem walkPT {l : PySem.W.OpenLaw} {q : Program} {loose : List Str} {XP : (Str → Option Value) → Heap → Prop} {YP : World → Heap → Prop} {d : DefRec} {K : Params → PySem.W.Frag} (k : Nat) (hn : l.most = some 63) (hdf : d.params.defaults = []) (hr : Room k callerA) (hd : d.name = "law")
    (hY : ∀ (w : World) (h : Heap), YP w h → (K w.params).In h)
    (F : ∀ (w : World) (mg mb : Str → Option Value) (h : Heap) (lo : List Str) (mean : ExcName → Option Value), Top q lo mean mg mb h → (K w.params).In h → h.Ns mainGlobals mg → ∃ Ts : List (Addr × Addr × Str), (Ts.map (·.2.1)).Nodup ∧ (∀ p ∈ Ts, TabAt (K w.params) h p.1 p.2.1) ∧
      (∃ st, LawD (K w.params) mg st) ∧ ∀ base : Heap, (K w.params).In base → base.Ns mainGlobals mg → (∀ p ∈ Ts, LamX.TabB base mg p.1 p.2.1) → FnP l.prog w (K w.params) mg base "law" k ["_law_script"] false (spLawT (Ts.map (·.2)))) :
    PySem.W.WalkO q loose XP YP l.row.toRowW d [] (fun f vs => PySem.call f vs) := by
  refine Att.attach_callB hn hdf fun w s₀ s₁ mg mb fa o pm cd doc a vs ns G Y ho hdd hcd hmg hobj hints hlen hbits hg => ?_
  have KX := hY w _ Y
  obtain ⟨Ts, nd, hT, ⟨st, _, f, fd, oc, od, osl, h1, h2, h3⟩, hF⟩ := F w mg mb _ _ _ G.T KX G.T.g
  have e : fa = f := by
    rw [hd, h1] at hmg
    cases hmg
    rfl
  subst e
  have nd' : ((Ts.map (·.2)).map (·.1)).Nodup := by
    rw [List.map_map]
    exact nd
  refine LamX.law_callTs (cs := Ts.map fun p => (p.1, p.2.1)) (sp := fun vs H Q E => LSp (K w.params) mg false 1 (spLawT (Ts.map (·.2))) vs H Q E) (CX := L2.CX l.prog w) (fd := fd) KX G.T.g G.T.b G.T.builtins G.T.nolimit hg (fun p hp => ?_) (fun p hp => ?_) (fun p hp => ?_) G.T.bmain hobj hints (Nat.le_trans hlen (by decide)) hr (fun base B1 B2 B3 => ?_) h3 (fun H hH hS => spLawT_of nd' (fun p hp => ?_) hS) ?_
  · obtain ⟨t, ht, rfl⟩ := List.mem_map.mp hp
    exact (hT t ht).emp
  · obtain ⟨t, ht, rfl⟩ := List.mem_map.mp hp
    exact (hT t ht).out
  · obtain ⟨t, ht, rfl⟩ := List.mem_map.mp hp
    exact (hT t ht).hd
  · obtain ⟨f', fd', g1, g2, g3, g4, oc', od', osl', g5⟩ := (hF base B1 B2 fun p hp => B3 (p.1, p.2.1) (List.mem_map.mpr ⟨p, hp, rfl⟩)).ex
    rw [h1] at g1
    cases g1
    rw [h2] at g5
    cases g5
    exact g2
  · obtain ⟨t, ht, rfl⟩ := List.mem_map.mp hp
    exact hH (t.1, t.2.1) (List.mem_map.mpr ⟨t, ht, rfl⟩)
  · intro H e s' h
    obtain ⟨_, _, _, _, _, _, _, _, _, _, _, _, z⟩ := h
    exact z
end CM

/-! the pure layer: lambdas, applied equations (for simp); places in a def; the head's rows -/
namespace CM
open PySem PySem.Spec PyProof.Rows L2
/-! places in a def's text -/
def sNil : Stmt := .Pass ⟨0, 0, 0, 0⟩
def eNil : Expr := .Name "" ⟨0, 0, 0, 0⟩
def stB (s : Stmt) (i : Nat) : Stmt := match s with
  | .FunctionDef _ _ b _ _ _ _ _ _ _ => b.getD i sNil
  | .For _ _ b _ _ => b.getD i sNil
  | .While _ b _ _ => b.getD i sNil
  | .If _ b _ _ => b.getD i sNil
  | .Try b _ _ _ _ => b.getD i sNil
  | _ => sNil
def stO (s : Stmt) (i : Nat) : Stmt := match s with
  | .If _ _ b _ => b.getD i sNil
  | _ => sNil
def stX (s : Stmt) : Expr := match s with
  | .Return (some e) _ => e
  | .Assign _ e _ => e
  | .For _ e _ _ _ => e
  | .While e _ _ _ => e
  | .If e _ _ _ => e
  | .Expr e _ => e
  | _ => eNil
def exI (e : Expr) (i : Nat) : Expr := match e with
  | .BoolOp _ vs _ => vs.getD i eNil
  | .BinOp l _ r _ => if i = 0 then l else r
  | .UnaryOp _ o _ => o
  | .Compare l _ cs _ => if i = 0 then l else cs.getD (i - 1) eNil
  | .Call f as _ _ => if i = 0 then f else as.getD (i - 1) eNil
  | .List es _ => es.getD i eNil
  | .Tuple es _ _ => es.getD i eNil
  | .Attribute v _ _ => v
  | .Subscript v s _ => if i = 0 then v else s
  | .ListComp e _ _ _ => e
  | _ => eNil
def lamAt (x : Str) (e : Expr) : LamRec := match e with
  | .Lambda a b s _ => ⟨(x ++ ".<locals>.") ++ "<lambda>", a, b, s⟩
  | _ => ⟨x, defArgs sNil, eNil, defScope sNil⟩
/-! equations -/
section
variable {ρ : PSt} {M : PHp} {E : XP} {Q : QP} {t : TEp} {ta : TAp} {n : Nat} {d : D} {xs cs : List D} {L : LamRec} {f P : Addr} {cl : List (Str × Addr)} {C : Cap} {T : LTab} {CT : Cap → Prop} {J : JTab} {g : LamRec → List (Str × Addr)} {spC : (Cap → Prop) → SpP} {q : Str}
theorem n_lam : cn M (.lam L f cl) = .lam L f cl := rfl
theorem n_clo : cn M (.clo L f C cs) = .clo L f C cs := rfl
theorem u_lam : pLam P L cl ρ M E Q = (M P = some (.tbl L.qual) ∧ ∀ f, Q (.lam L f cl) ρ M) := rfl
def kclo2 (T : LTab) (CT : Cap → Prop) (v : D) (E : XP) (Q : QP) : List D → PSt → PHp → Prop := fun as ρ2 M2 => ∃ L f C cs n sp, v = .clo L f C cs ∧ T L C.fr n sp ∧ CT C ∧ as.length = n ∧ cs.length = C.fr.length ∧ sp (as ++ cs) M2 (kXC E ρ2) (kQC Q ρ2)
def isClo (v : D) : Prop := ∃ L f C cs, v = .clo L f C cs
def kclo (T : LTab) (CT : Cap → Prop) (ta : TAp) (E : XP) (Q : QP) : QP := fun v ρ1 M1 => isClo v ∧ ta ρ1 M1 E (kclo2 T CT v E Q)
theorem u_clo : pClo T CT t ta ρ M E Q = t ρ M E (kclo T CT ta E Q) := rfl
theorem u_clo1 : kclo T CT ta E Q d ρ M = (isClo d ∧ ta ρ M E (kclo2 T CT d E Q)) := rfl
theorem u_isClo : isClo (.clo L f C cs) = True := by unfold isClo; simp
theorem u_clo2 : kclo2 T CT (.clo L f C cs) E Q xs ρ M = ∃ n sp, T L C.fr n sp ∧ CT C ∧ xs.length = n ∧ cs.length = C.fr.length ∧ sp (xs ++ cs) M (kXC E ρ) (kQC Q ρ) := by
  apply propext
  constructor
  · rintro ⟨L, f, C, cs, n, sp, e, h⟩
    cases e
    exact ⟨n, sp, h⟩
  · rintro ⟨n, sp, h⟩
    exact ⟨L, f, C, cs, n, sp, rfl, h⟩
def kcallC (n : Nat) (sp : (Cap → Prop) → SpP) (J : JTab) (g : LamRec → List (Str × Addr)) (E : XP) (Q : QP) : List D → PSt → PHp → Prop := fun ds ρ1 M1 => ∃ L f rest fr js cs, ds = .lam L f (g L) :: rest ∧ J L fr js ∧ capD ρ1 js = some cs ∧ rest.length + 1 = n ∧
  ∀ (CT : Cap → Prop) (C : Cap), CT C → C.fr = fr → cs.length = fr.length → sp CT (.clo L f C cs :: rest) M1 (kXC E ρ1) (kQC Q ρ1)
theorem u_callC : pCallC n spC J g ta ρ M E Q = ta ρ M E (kcallC n spC J g E Q) := rfl
def goC (n : Nat) (sp : (Cap → Prop) → SpP) (J : JTab) (g : LamRec → List (Str × Addr)) (L : LamRec) (f : Addr) (cl : List (Str × Addr)) (xs : List D) (ρ : PSt) (M : PHp) (E : XP) (Q : QP) : Prop := cl = g L ∧ ∃ fr js cs, J L fr js ∧ capD ρ js = some cs ∧ xs.length + 1 = n ∧
  ∀ (CT : Cap → Prop) (C : Cap), CT C → C.fr = fr → cs.length = fr.length → sp CT (.clo L f C cs :: xs) M (kXC E ρ) (kQC Q ρ)
theorem u_callC1 : kcallC n spC J g E Q (.lam L f cl :: xs) ρ M = goC n spC J g L f cl xs ρ M E Q := by
  apply propext
  constructor
  · rintro ⟨L, f, rest, fr, js, cs, e, h⟩
    cases e
    exact ⟨rfl, fr, js, cs, h⟩
  · rintro ⟨rfl, fr, js, cs, h⟩
    exact ⟨L, f, xs, fr, js, cs, rfl, h⟩
end
/-! the head -/
section
variable {K : PySem.W.Frag} {h : Heap} {mg mb : Str → Option Value} {q : Program} {lo : List Str} {mean : ExcName → Option Value}
abbrev TabAtOf (_ : K.In h) (c P : Addr) : Prop := TabAt K h c P
theorem tab_mk {x : Str} {f c P : Addr} {d : DefRec} {oc e : Value} {od dd : Option Addr} {fd : FuncData} {osl sl : Array (Option Value)} {vs : Array Value} (TT : Top q lo mean mg mb h) (X : K.In h) (hr : (recsOf q).find? (fun e => e.name == x) = some d)
    (a : PySem.W.nsIn K mainGlobals x = some (some (.ref f))) (l : K.lookup f = some ⟨oc, od, .func fd, osl⟩) (hc : fd.code = .ref c) (lc : K.lookup c = some ⟨e, dd, .fields vs, sl⟩) (h11 : vs[11]? = some (.ref P)) (out : K.lookup P = none) : TabAt K h c P := by
  have ht : PySem.W.tabIn K x = some (c, P) := by
    unfold PySem.W.tabIn
    simp only [a, l, hc, lc, h11]
  obtain ⟨h1, h2⟩ := PySem.W.tab_of TT X hr ht
  exact ⟨h2, out, h1⟩
end
end CM

/-! the pure layer: tuples with empty dicts among their items, compared -/
namespace CM
open PySem PySem.Spec PyProof.Rows L2
theorem dict0_any {prog prog' : Program} {w w' : World} {h : Heap} {a : Addr} (d : h.DictOf (mixKind prog w) a []) : h.DictOf (mixKind prog' w') a [] := by
  obtain ⟨o, es, ep, h1, h2, h3, h4, h5, h6⟩ := d
  have e : es.toList = [] := by
    cases q : es.toList with
    | nil => rfl
    | cons x r => rw [q] at h5; cases h5
  have e2 : es = #[] := by
    apply Array.ext'
    rw [e]
  subst e2
  exact ⟨o, #[], ep, h1, h2, h3, fun x hx => by simp at hx, .nil, by simp⟩
inductive MixA (K : PySem.W.Frag) (H : Hp) : List V → List V → List PyData → List PyData → Prop
  | nil : MixA K H [] [] [] []
  | dat {x y : V} {d e : PyData} {xs ys : List V} {ds es : List PyData} : Dp K H x d → Dp K H y e → SeqAt.shaped d = true → SeqAt.shaped e = true → MixA K H xs ys ds es → MixA K H (x :: xs) (y :: ys) (d :: ds) (e :: es)
  | dic {a b : Addr} {xs ys : List V} {ds es : List PyData} : Rd H a (.dK []) → Rd H b (.dK []) → MixA K H xs ys ds es → MixA K H (.ref a :: xs) (.ref b :: ys) (.none :: ds) (.none :: es)
theorem MixA.len {K : PySem.W.Frag} {H : Hp} {xs ys : List V} {ds es : List PyData} (m : MixA K H xs ys ds es) : xs.length = ds.length ∧ ys.length = es.length := by
  induction m with
  | nil => exact ⟨rfl, rfl⟩
  | dat _ _ _ _ _ ih => simp [ih]
  | dic _ _ _ ih => simp [ih]
section
variable {X : Cx}
theorem MixA.at {pins : List (Addr × Obj)} {σ : L2.St} {H : Hp} {s : Shared} {A : Around} (I : Inv X pins σ H s) (hu : A.units + 64 < cLine) {xs ys : List V} {ds es : List PyData} (m : MixA X.K H xs ys ds es) :
    ∀ (us vs : List Value), Vals xs us → Vals ys vs → ∀ j (h1 : j < us.length) (h2 : j < vs.length), SeqAt.EqAt A s us[j] vs[j] (SeqAt.pairEq ds es j) := by
  induction m with
  | nil =>
    intro us vs r1 _ j h1
    cases r1
    exact absurd h1 (Nat.not_lt_zero _)
  | @dat x y d e xs ys ds es p1 p2 s1 s2 m ih =>
    intro us vs r1 r2 j h1 h2
    cases r1 with
    | @cons _ u _ us q1 t1 =>
      cases r2 with
      | @cons _ v _ vs q2 t2 =>
        cases j with
        | zero =>
          obtain ⟨as, e1⟩ := Dp.reads I d x u p1 q1
          obtain ⟨bs, e2⟩ := Dp.reads I e y v p2 q2
          exact SeqAt.eqAt_reads d e A s u v as bs e1 e2 (SeqAt.canLay_of_shaped s1) (SeqAt.canLay_of_shaped s2) (SeqAt.room_of_shaped s1 hu)
        | succ j => exact ih us vs t1 t2 j (Nat.lt_of_succ_lt_succ h1) (Nat.lt_of_succ_lt_succ h2)
  | @dic a b xs ys ds es p1 p2 m ih =>
    intro us vs r1 r2 j h1 h2
    cases r1 with
    | @cons _ u _ us q1 t1 =>
      cases r2 with
      | @cons _ v _ vs q2 t2 =>
        cases j with
        | zero =>
          cases q1
          cases q2
          show SeqAt.EqAt A s _ _ true
          by_cases hab : a = b
          · subst hab
            exact SeqAt.EqAt.same _
          · refine SeqAt.EqAt.of_refs hab fun prog w E Q hq => ?_
            obtain ⟨_, ya, va, ra, da⟩ := p1.ok I.hok
            obtain ⟨_, yb, vb, rb, db⟩ := p2.ok I.hok
            cases ra
            cases rb
            exact PySem.W.keq_eq (knd := mixKind prog w) (r := true) ya yb (dict0_any da) (dict0_any db) (by omega) (fun _ => hits_all .nil .nil (fun p hp => by cases hp)) hq
        | succ j => exact ih us vs t1 t2 j (Nat.lt_of_succ_lt_succ h1) (Nat.lt_of_succ_lt_succ h2)
def rEqT (K : PySem.W.Frag) (neg : Bool) : R2 := fun x y H Q => ∃ a b xs ys ds es, x = .ref a ∧ y = .ref b ∧ SqT K H a xs ∧ SqT K H b ys ∧ MixA K H xs ys ds es ∧ Q (.bl (xor neg (PyData.eqvAll ds es))) H
theorem op_eqT (hu : X.A.units + 65 < cLine) : OpR X (compareOp .Eq) (rEqT X.K false) := by
  intro pins s σ H x y v u Q I rx ry h
  obtain ⟨a, b, xs, ys, ds, es, rfl, rfl, h1, h2, m, q⟩ := h
  cases rx
  cases ry
  obtain ⟨us, r1, ⟨o1, ho1, hc1, n1, hd1⟩, _⟩ := I.tuple h1
  obtain ⟨vs, r2, ⟨o2, ho2, hc2, n2, hd2⟩, _⟩ := I.tuple h2
  have z := SeqAt.RcAt.tuples (A := X.A) (s := s) (l := a) (b := b) (items := us.toArray) (items2 := vs.toArray) (e := SeqAt.pairEq ds es) ⟨o1, ho1, hc1, n1, hd1⟩ ⟨o2, ho2, hc2, n2, hd2⟩ (by omega)
    fun j j1 j2 => by simpa using m.at I (A := X.A.in1) (by show X.A.units + 1 + 64 < cLine; omega) us vs r1 r2 j (by simpa using j1) (by simpa using j2)
  have e1 : us.toArray.size = ds.length := by simpa using (r1.length.symm.trans m.len.1)
  have e2 : vs.toArray.size = es.length := by simpa using (r2.length.symm.trans m.len.2)
  rw [e1, e2, SeqAt.eqvAll_eq] at z
  exact z _ _ _ _ ⟨.bl _, H, I, rfl, by simpa using q⟩
theorem op_neT (hu : X.A.units + 65 < cLine) : OpR X (compareOp .NotEq) (rEqT X.K true) := by
  intro pins s σ H x y v u Q I rx ry h
  obtain ⟨a, b, xs, ys, ds, es, rfl, rfl, h1, h2, m, q⟩ := h
  cases rx
  cases ry
  obtain ⟨us, r1, ⟨o1, ho1, hc1, n1, hd1⟩, _⟩ := I.tuple h1
  obtain ⟨vs, r2, ⟨o2, ho2, hc2, n2, hd2⟩, _⟩ := I.tuple h2
  have z := SeqAt.RcNeAt.tuples (A := X.A) (s := s) (l := a) (b := b) (items := us.toArray) (items2 := vs.toArray) (e := SeqAt.pairEq ds es) ⟨o1, ho1, hc1, n1, hd1⟩ ⟨o2, ho2, hc2, n2, hd2⟩ (by omega)
    fun j j1 j2 => by simpa using m.at I (A := X.A.in1) (by show X.A.units + 1 + 64 < cLine; omega) us vs r1 r2 j (by simpa using j1) (by simpa using j2)
  have e1 : us.toArray.size = ds.length := by simpa using (r1.length.symm.trans m.len.1)
  have e2 : vs.toArray.size = es.length := by simpa using (r2.length.symm.trans m.len.2)
  rw [e1, e2, SeqAt.eqvAll_eq] at z
  exact z _ _ _ _ ⟨.bl _, H, I, rfl, by simpa using q⟩
end
/-! in the pure world -/
def pairOK : D → D → Bool
  | .dK [], .dK [] => true
  | a, b => plain 12 a && plain 12 b
def pairsOK : List D → List D → Bool
  | [], [] => true
  | a :: xs, b :: ys => pairOK a b && pairsOK xs ys
  | _, _ => false
def toPyM : D → PyData
  | .dK [] => .none
  | d => toPy d
def eqMs (xs ys : List D) : Bool := PyData.eqvAll (xs.map toPyM) (ys.map toPyM)
theorem toPyM_plain {n : Nat} {d : D} (h : plain n d = true) : toPyM d = toPy d := by
  cases d with
  | dK l => cases n <;> cases h
  | _ => rfl
theorem eqMs_c {a b : D} {xs ys : List D} : eqMs (a :: xs) (b :: ys) = (PyData.eqv (toPyM a) (toPyM b) && eqMs xs ys) := rfl
theorem eqMs_0 : eqMs [] [] = true := rfl
def eqMix (neg : Bool) : D → D → TEp
  | .tup xs, .tup ys => pGu (pairsOK xs ys = true) (pRet (.bl (xor neg (eqMs xs ys))))
  | a, b => eqR neg a b
def rEqM (K : PySem.W.Frag) (neg : Bool) : R2 := fun x y H Q => rEqT K neg x y H Q ∨ rEqP K neg x y H Q
theorem op_eqM {X : Cx} {K : PySem.W.Frag} (hu : X.A.units + 65 < cLine) (hK : X.K = K := by rfl) : OpR X (compareOp .Eq) (rEqM K false) := hK ▸ opImp (L2.OpR.or (op_eqT hu) (op_eqP (K := X.K) (by omega))) fun x y H Q h => h
theorem op_neM {X : Cx} {K : PySem.W.Frag} (hu : X.A.units + 65 < cLine) (hK : X.K = K := by rfl) : OpR X (compareOp .NotEq) (rEqM K true) := hK ▸ opImp (L2.OpR.or (op_neT hu) (op_neP (K := X.K) (by omega))) fun x y H Q h => h
section
variable {K : PySem.W.Frag} {mg : Str → Option Value} {w : Wd}
theorem mixA_of (ok : w.Ok K mg) : ∀ {xs ys : List D} {vs us : List V}, Reps K mg w.Z w.H vs xs → Reps K mg w.Z w.H us ys → pairsOK xs ys = true → MixA K w.H vs us (xs.map toPyM) (ys.map toPyM)
  | [], [], _, _, .nil, .nil, _ => .nil
  | a :: xs, b :: ys, _, _, .cons r1 t1, .cons r2 t2, h => by
    rw [pairsOK, Bool.and_eq_true] at h
    have ih := mixA_of ok t1 t2 h.2
    have h1 := h.1
    unfold pairOK at h1
    split at h1
    · cases r1 with
      | @dK p kvs _ z1 g1 e1 q1 =>
        cases r2 with
        | @dK p2 kvs2 _ z2 g2 e2 q2 =>
          have y1 : kvs = [] := List.map_eq_nil_iff.mp e1
          have y2 : kvs2 = [] := List.map_eq_nil_iff.mp e2
          subst y1 y2
          exact .dic g1 g2 ih
    · rw [Bool.and_eq_true] at h1
      rw [List.map_cons, List.map_cons, toPyM_plain h1.1, toPyM_plain h1.2]
      exact .dat (r1.dp h1.1) (r2.dp h1.2) ((plain_ok _ _ h1.1).shaped (by decide)) ((plain_ok _ _ h1.2).shaped (by decide)) ih
  | [], _ :: _, _, _, _, _, h => by cases h
  | _ :: _, [], _, _, _, _, h => by cases h
theorem v_eqM {neg : Bool} : OpV K mg (eqMix neg) (rEqM K neg) := by
  intro W w σ x y a b Q va vb h
  unfold eqMix at h
  split at h
  · obtain ⟨p, vs, rfl, hp, r1⟩ := va
    obtain ⟨q, us, rfl, hq, r2⟩ := vb
    have ok := h.ok
    obtain ⟨hm, h⟩ := h.gu
    exact .inl ⟨p, q, vs, us, _, _, rfl, rfl, sqT_of hp, sqT_of hq, mixA_of ok r1 r2 hm, h.ret (.bl _)⟩
  · exact .inr (v_eq W w σ x y a b Q va vb h)
end
section
variable {M : PHp} {ρ : PSt} {E : XP} {Q : QP} {xs ys : List D} {p : Bool}
theorem d_mix : eqMix p (.tup xs) (.tup ys) ρ M E Q = (pairsOK xs ys = true ∧ Q (.bl (xor p (eqMs xs ys))) ρ M) := rfl
theorem d_mixL : eqMix p (.lst xs) d ρ M E Q = eqR p (.lst xs) d ρ M E Q := by cases d <;> rfl
theorem d_mixN : eqMix p (.tup xs) .non ρ M E Q = eqR p (.tup xs) .non ρ M E Q := rfl
end
end CM

/-! the pure layer: lists of cells, compared -/
namespace CM
open PySem PySem.Spec PyProof.Rows L2
def cn1 (M : PHp) : D → D
  | .lst ds => .lst (ds.map (cn M))
  | d => d
def eqRC (neg : Bool) (a b : D) : TEp := fun ρ M E Q => (plain 12 (cn1 M a) = true ∧ plain 12 (cn1 M b) = true) ∧ Q (.bl (xor neg (eqD (cn1 M a) (cn1 M b)))) ρ M
section
variable {K : PySem.W.Frag} {mg : Str → Option Value} {w : Wd}
theorem reps_dp1 (ok : w.Ok K mg) {n : Nat} : ∀ {vs : List V} {ds : List D}, Reps K mg w.Z w.H vs ds → (ds.map (cn w.M)).all (plain n) = true → DpAll K w.H vs (toPys (ds.map (cn w.M)))
  | _, _, .nil, _ => .nil
  | _, _, .cons r t, h => by
    rw [List.map_cons, List.all_cons, Bool.and_eq_true] at h
    exact .cons ((r.view ok).dp h.1) (reps_dp1 ok t h.2)
theorem view_dp1 (ok : w.Ok K mg) {v : V} {a : D} (h : View K mg w v a) (p : plain 12 (cn1 w.M a) = true) : Dp K w.H v (toPy (cn1 w.M a)) := by
  cases a with
  | lst ds =>
    obtain ⟨q, vs, rfl, hv, r⟩ := h
    exact .lst (SqL.of hv) (reps_dp1 ok (n := 11) r p)
  | _ => exact h.dp p
theorem v_eqC {neg : Bool} : OpV K mg (eqRC neg) (rEqP K neg) := by
  intro W w σ x y a b Q va vb h
  have ok := h.ok
  obtain ⟨B, ρ, Q0, E0, R, ⟨⟨p1, p2⟩, h⟩, k, x⟩ := h
  exact .inl ⟨_, _, view_dp1 ok va p1, view_dp1 ok vb p2, (plain_ok _ _ p1).shaped (by decide), (plain_ok _ _ p2).shaped (by decide), k _ ρ _ h w (.bl _) rfl (Ke.refl _ _) R (.bl _)⟩
end
theorem d_eqC {M : PHp} {ρ : PSt} {E : XP} {Q : QP} {p : Bool} {a b : D} : eqRC p a b ρ M E Q = ((plain 12 (cn1 M a) = true ∧ plain 12 (cn1 M b) = true) ∧ Q (.bl (xor p (eqD (cn1 M a) (cn1 M b)))) ρ M) := rfl
theorem n_cn1 {M : PHp} {ds : List D} : cn1 M (.lst ds) = .lst (ds.map (cn M)) := rfl
/-! comprehensions over written lists, item by item -/
section
variable {g : TGp} {te : TEp} {vs : List Nat} {chk : PHp → Prop} {Q : List D → PSt → PHp → Prop} {xs acc : List D} {x : D} {ρ : PSt} {M : PHp}
def kcp2 (g : TGp) (te : TEp) (vs : List Nat) (chk : PHp → Prop) (Q : List D → PSt → PHp → Prop) (xs acc : List D) : QP := fun y ρ4 M4 => compP g tYesP te vs chk Q xs (acc ++ [y]) ρ4 M4
def kcp (g : TGp) (te : TEp) (vs : List Nat) (chk : PHp → Prop) (Q : List D → PSt → PHp → Prop) (xs acc : List D) : PSt → PHp → Prop := fun ρ2 M2 => te ρ2 M2 noX (kcp2 g te vs chk Q xs acc)
theorem u_cp0 : compP g tYesP te vs chk Q [] acc ρ M = (chk M ∧ Q acc (wipeP ρ vs) M) := rfl
theorem u_cpS : compP g tYesP te vs chk Q (x :: xs) acc ρ M = (chk M ∧ g x (wipeP ρ vs) M (kcp g te vs chk Q xs acc)) := by
  simp only [compP, tYesP, if_true]
  rfl
theorem u_cp1 : kcp g te vs chk Q xs acc ρ M = te ρ M noX (kcp2 g te vs chk Q xs acc) := rfl
theorem u_cp2 : kcp2 g te vs chk Q xs acc x ρ M = compP g tYesP te vs chk Q xs (acc ++ [x]) ρ M := rfl
theorem u_wp0 : wipeP ρ [] = ρ := rfl
theorem u_wpS {v : Nat} : wipeP ρ (v :: vs) = (wipeP ρ vs).set v none := rfl
end
end CM

namespace CM
open PySem PySem.Spec PyProof.Rows L2

theorem z_0 : Str.ofString "not a trip" = sL [110, 111, 116, 32, 97, 32, 116, 114, 105, 112] := by decide +kernel
theorem z_1 : Str.ofString "not such a text" = sL [110, 111, 116, 32, 115, 117, 99, 104, 32, 97, 32, 116, 101, 120, 116] := by decide +kernel
theorem z_2 : Str.ofString "not a speed" = sL [110, 111, 116, 32, 97, 32, 115, 112, 101, 101, 100] := by decide +kernel
theorem z_3 : Str.ofString "not worths" = sL [110, 111, 116, 32, 119, 111, 114, 116, 104, 115] := by decide +kernel
theorem z_4 : Str.ofString "0" = sL [48] := by decide +kernel
theorem z_5 : Str.ofString " " = sL [32] := by decide +kernel
theorem z_6 : Str.ofString "a table is not iterated over" = sL [97, 32, 116, 97, 98, 108, 101, 32, 105, 115, 32, 110, 111, 116, 32, 105, 116, 101, 114, 97, 116, 101, 100, 32, 111, 118, 101, 114] := by decide +kernel
theorem z_7 : Str.ofString "" = sL [] := by decide +kernel
theorem z_8 : Str.ofString "0123456789" = sL [48, 49, 50, 51, 52, 53, 54, 55, 56, 57] := by decide +kernel
theorem z_9 : Str.ofString "005" = sL [48, 48, 53] := by decide +kernel
theorem z_10 : Str.ofString "0123" = sL [48, 49, 50, 51] := by decide +kernel
theorem z_11 : Str.ofString "09" = sL [48, 57] := by decide +kernel
theorem z_12 : Str.ofString "3456" = sL [51, 52, 53, 54] := by decide +kernel
theorem z_13 : Str.ofString "speed" = sL [115, 112, 101, 101, 100] := by decide +kernel
theorem z_14 : Str.ofString "trip" = sL [116, 114, 105, 112] := by decide +kernel
theorem z_15 : Str.ofString "5" = sL [53] := by decide +kernel
theorem z_16 : Str.ofString "5a" = sL [53, 97] := by decide +kernel
theorem z_17 : Str.ofString "7" = sL [55] := by decide +kernel
theorem z_18 : Str.ofString "law_cabmeters_k15_tables_of_worths" = sL [108, 97, 119, 95, 99, 97, 98, 109, 101, 116, 101, 114, 115, 95, 107, 49, 53, 95, 116, 97, 98, 108, 101, 115, 95, 111, 102, 95, 119, 111, 114, 116, 104, 115] := by decide +kernel
local macro_rules | `(tactic| walk_at "pw") => `(tactic| simp only [d_eqC, n_cn1, d_mix, d_mixL, d_mixN, n_lam, n_clo, u_lam, u_clo, u_clo1, u_isClo, u_clo2, u_callC, u_callC1, u_tryN, u_inX, u_tryN0, u_tryN1, n_obj, n_fn, u_gf, u_mk, u_mk1, u_mkX, u_mkQ, u_mkL, u_mkL1, u_mthC, u_mth, u_mth1, u_mth2, u_isC, u_prp, u_prp1, u_cls, u_cls1, u_sub, u_sub1, u_sub2, u_fld, u_fld1, u_fld2, u_sfdK, u_sf, u_sf1, u_sf2, u_pf0, u_isFn, u_val, u_val1, u_val2, u_val3, u_vt1, u_ret, u_no, u_var, u_var1, u_var2, u_move, u_move1, u_bin, u_bin1, u_bin2, u_un, u_un1, u_tst, u_tst1, u_nil, u_cons, u_cons1, u_cons2, u_andT, u_andT1, u_orT, u_orT1, u_notT, u_notT1, u_if, u_if1, u_andV, u_andV1, u_orV, u_orV1, u_notV, u_notV1, u_lst, u_lst1, u_tup, u_tup1, u_cb, u_cb1, u_gu, u_opt1, u_ex, u_chain, u_chain1, u_chain2, u_chain3, u_chain4, u_tru, u_tru1, u_tru2, u_bval, u_bval1, u_bslot, u_gval, u_gslot, u_gslot1, u_gslot2, u_pslot, u_pslot1, u_pslot2, u_pval, u_putR, u_ix, u_ix1, u_ix2, u_ix3, u_onone, u_osome, u_osome1, u_sl, u_sl1, u_sl2, u_sl3, u_sl4, u_lmP, u_lmR, u_lmK, u_isLK, u_lm1, u_lm2, u_lm, u_m1, u_m11, u_m12, u_kXC, u_kQC, u_kQO, u_call, u_call1, u_callO, u_callO1, u_cell, u_star, u_star1, u_star2, u_star3, u_js, u_jsS, u_js0, u_js1, u_js2, u_xg, u_xg1, u_xi, u_xi1, u_seq, u_nx, u_nxr, u_nxb, u_nxc, u_endn, u_endr, u_next, u_brk, u_cont, u_drop, u_drop1, u_set, u_set1, u_setO, u_setO1, u_sret, u_sretS, u_sretS1, u_sretN, u_sif, u_sif1, u_never, u_aug, u_aug1, u_aug2, u_aug3, u_asg, u_asg1, u_putE, u_putQ, u_setK, u_put1, u_put2, u_put3, u_put, u_raise, u_raise1, u_for, u_for1, u_tryn, u_tryr, u_try, u_try1, u_gn, u_gt, u_gnil, u_gcons, u_gc1, u_lc, u_lc1, u_lc2, u_yes, u_iL, u_iL1, u_iL2, u_iT, u_iT1, u_iS, u_iS1, u_iR1, u_iR11, u_iR2, u_iR21, u_iR3, u_iR31, u_lb1, u_lb2, u_iLT, u_iLf, u_iTf, u_mthO, u_mthO1, u_mthO2, u_prpO, u_prpO1, u_co, u_co1, u_co2, u_mkK, u_mkK1, u_mkK2, d_isiT, d_isiO, d_dget, d_din, key2, u_din, u_din1, u_din2, u_pdt, u_dp, u_dp1, u_dp2, u_dp3, u_dp4, u_kput, n_dT, u_ds, u_ds1, u_ds2, d_sortP, d_listT, u_m0d, u_m0d1, u_fnX, n_non, n_bl, n_int, n_str, n_ty, n_lst, n_tup, n_dK, n_exc, n_scr, n_ref, d_add1, d_add2, d_add3, d_addL, d_iadd1, d_iadd2, d_sub, d_mul1, d_mul2, d_mul3, d_fdiv, d_mod, d_pow, d_lt, d_le, d_gt, d_ge, d_neg, d_eq1, d_eq2, d_eq3, d_eq4, d_eq5, d_eq6, d_eq7, d_isN, d_isB, d_in1, d_in2, d_ix1, d_ix2, d_ix3, d_sl1, d_sl2, d_sl3, d_sl4, d_len1, d_len2, d_len3, d_abs, d_max1, d_max2, d_min1, d_min2, d_sum, d_all, d_int1, d_int2, d_int3, d_str, d_isi, d_list1, d_list2, d_list3, d_tup1, d_tup2, d_join, d_split, d_fmt1, d_fmt2, d_app, d_pop0, d_pop1, d_clear, d_ext, d_put, t_non, t_bl, t_int, t_str, t_lst, t_tup, t_dK, r_non, r_bl, r_int, r_lst, p_non, p_bl, p_int, p_str, p_lst, p_tup, l_str, l_lst, l_tup, l_int, l_bl, l_non, e_ii, e_ss, e_bb, e_nn, e_ll, e_tt, e_0, e_c, e_0c, e_c0, e_ns, e_sn, e_sl, e_ls, e_st, e_ts, e_bs, e_sb, e_nt, e_tn, e_nl, e_ln, e_tl, e_lt, e_ni, e_in, e_is, e_si, u_start, u_nones0, u_nonesS, noChk, ix_nn, List.map_cons, List.map_nil, List.length_cons, List.length_nil, List.length_append, Nat.reduceAdd, Nat.reduceSub, Nat.reduceLeDiff, Nat.reduceLT, Nat.zero_add, List.cons_append, List.nil_append, List.append_nil, List.getElem?_cons_zero, List.getElem?_cons_succ, List.set_cons_zero, List.set_cons_succ, Option.some.injEq, Prod.mk.injEq, exists_eq_left, exists_eq_left', exists_and_left, exists_eq', exists_eq_right, exists_eq_right', and_true, true_and, D.str.injEq, D.int.injEq, D.bl.injEq, D.ref.injEq, D.lst.injEq, D.tup.injEq, D.exc.injEq, List.cons.injEq, if_true, if_false, ite_true, ite_false, reduceIte, Bool.not_true, Bool.not_false, List.isEmpty_nil, List.isEmpty_cons, Bool.xor_true, Bool.true_xor, Bool.xor_false, Bool.false_xor, Bool.false_eq_true, decide_true, decide_false, Bool.or_true, Bool.true_or, Bool.or_false, Bool.false_or, Bool.and_true, Bool.true_and, Bool.and_false, Bool.false_and, beq_self_eq_true, String.reduceBEq, forall_const, implies_true, reduceCtorEq, false_and, and_false, or_false, false_or, exists_const, exists_false, ne_eq, not_false_eq_true, not_true_eq_false, decide_eq_true_eq, Bool.not_eq_true', decide_eq_false_iff_not, Option.map_some, Option.getD_some, Option.getD_none, updM_same, updM_updM, at_nn, Int.reduceLE, Int.reduceLT, Int.reduceToNat, Int.reduceNeg, Int.reduceAdd, Int.reduceSub, Int.reduceMul, Int.cast_ofNat_Int, Int.toNat_natCast, Int.natCast_nonneg, Int.toNat_zero, Int.toNat_one, List.eraseIdx_cons_zero, List.eraseIdx_cons_succ, okTy, subTy, isCell, List.all_cons, List.all_nil, List.any_cons, List.any_nil, and_self, dInts_map, dInts_id, dBools_map, dBools_id, dStrs_map, dStrs_id, eq_self_iff_true])
local macro_rules | `(tactic| walk_at "pg1") => `(tactic| first | walk_at "pw" | (refine And.intro ?_ ?_; (focus (first | omega | (apply cm_l <;> omega) | (apply cm_r <;> omega) | (apply cd_i <;> omega)))) | (refine ite2 ?_ ?_; (focus (intro hh; exfalso; omega)); intro _) | (refine ite2 ?_ ?_; rotate_left; (focus (intro hh; exfalso; omega)); intro _))
local macro_rules | `(tactic| walk_at "pg") => `(tactic| repeat walk_at "pg1")
local macro_rules | `(tactic| walk_at "pc") => `(tactic| repeat (first | walk_at "pg1" | simp only [u_cp0, u_cpS, u_cp1, u_cp2, u_wp0, u_wpS, noChk, true_and, List.set_cons_zero, List.set_cons_succ, List.nil_append, List.cons_append]))

def top (i : Nat) : Stmt := PySem.Challenge.pw_cabmeters_k15_tables_of_worths.main.body.getD i (.Pass ⟨0, 0, 0, 0⟩)
def inClass (st : Stmt) (j : Nat) : Stmt := match st with
  | .ClassDef _ _ _ b _ _ _ _ _ _ _ => b.getD j (.Pass ⟨0, 0, 0, 0⟩)
  | _ => .Pass ⟨0, 0, 0, 0⟩
structure Txt (K : PySem.W.Frag) (mg : Str → Option Value) : Prop where
  n_abs : mg "abs" = none
  n_all : mg "all" = none
  n_bool : mg "bool" = none
  n_int : mg "int" = none
  n_isinstance : mg "isinstance" = none
  n_len : mg "len" = none
  n_list : mg "list" = none
  n_max : mg "max" = none
  n_min : mg "min" = none
  n_range : mg "range" = none
  n_str : mg "str" = none
  n_sum : mg "sum" = none
  n_tuple : mg "tuple" = none
  g_DIGITS : ∃ t, mg "DIGITS" = some (.str "0123456789" t)
  g_GREATEST_SPEED : ∃ t, mg "GREATEST_SPEED" = some (.int 9 t)
  g_GREATEST_WORTH : ∃ t, mg "GREATEST_WORTH" = some (.int 60 t)
  g_MOST_TICKS : ∃ t, mg "MOST_TICKS" = some (.int 2000 t)
  f_Table_row : FldC K mg "Table" "row"
  k_Table : ∃ Ca, mg "Table" = some (.ref Ca) ∧ PySem.W.keepIn K (.ref Ca) = true
  xm : XMat K mg ["BadTrip", "BadText", "BadSpeed", "BadWorths"]
  xb : XBas K mg ["BadTrip", "BadText", "BadSpeed", "BadWorths"] "MeterError"
abbrev TxtOf {K : PySem.W.Frag} {h : Heap} (_ : K.In h) (mg : Str → Option Value) : Prop := Txt K mg
abbrev XMatOf {K : PySem.W.Frag} {h : Heap} (_ : K.In h) (mg : Str → Option Value) (L : List Str) : Prop := XMat K mg L
abbrev XBasOf {K : PySem.W.Frag} {h : Heap} (_ : K.In h) (mg : Str → Option Value) (L : List Str) (b : Str) : Prop := XBas K mg L b
abbrev BaseXOf {K : PySem.W.Frag} {h : Heap} (_ : K.In h) (mg : Str → Option Value) (b : Str) : Prop := BaseX K mg b
abbrev s_BadTrip___init__ : Stmt := inClass (top 3) 0
theorem sc_BadTrip___init__ : FnScope ["self", "given"] ["self", "given"] (defScope s_BadTrip___init__) := ⟨rfl, rfl, rfl, by decide +kernel, rfl, by decide +kernel, by decide +kernel⟩
theorem okx_BadTrip {P : Program} {w : World} {K : PySem.W.Frag} {mg : Str → Option Value} {base : Heap} (Dx : XDf K mg "BadTrip" "BadTrip.__init__" s_BadTrip___init__) (B : BaseX K mg "MeterError") : XFn P w K mg base "BadTrip" :=
  Dx.ok sc_BadTrip___init__ fun f cdv A outer s H E hr => pss_cons (ps_expr (pe_meinit B rfl (pa_cons (pv 0) (pa_cons pe_str pa_nil)))) (pss_one (ps_ost (pv 0) (pv 1)))
abbrev s_BadText___init__ : Stmt := inClass (top 4) 0
theorem sc_BadText___init__ : FnScope ["self", "given"] ["self", "given"] (defScope s_BadText___init__) := ⟨rfl, rfl, rfl, by decide +kernel, rfl, by decide +kernel, by decide +kernel⟩
theorem okx_BadText {P : Program} {w : World} {K : PySem.W.Frag} {mg : Str → Option Value} {base : Heap} (Dx : XDf K mg "BadText" "BadText.__init__" s_BadText___init__) (B : BaseX K mg "MeterError") : XFn P w K mg base "BadText" :=
  Dx.ok sc_BadText___init__ fun f cdv A outer s H E hr => pss_cons (ps_expr (pe_meinit B rfl (pa_cons (pv 0) (pa_cons pe_str pa_nil)))) (pss_one (ps_ost (pv 0) (pv 1)))
abbrev s_BadSpeed___init__ : Stmt := inClass (top 5) 0
theorem sc_BadSpeed___init__ : FnScope ["self", "given"] ["self", "given"] (defScope s_BadSpeed___init__) := ⟨rfl, rfl, rfl, by decide +kernel, rfl, by decide +kernel, by decide +kernel⟩
theorem okx_BadSpeed {P : Program} {w : World} {K : PySem.W.Frag} {mg : Str → Option Value} {base : Heap} (Dx : XDf K mg "BadSpeed" "BadSpeed.__init__" s_BadSpeed___init__) (B : BaseX K mg "MeterError") : XFn P w K mg base "BadSpeed" :=
  Dx.ok sc_BadSpeed___init__ fun f cdv A outer s H E hr => pss_cons (ps_expr (pe_meinit B rfl (pa_cons (pv 0) (pa_cons pe_str pa_nil)))) (pss_one (ps_ost (pv 0) (pv 1)))
abbrev s_BadWorths___init__ : Stmt := inClass (top 6) 0
theorem sc_BadWorths___init__ : FnScope ["self", "given"] ["self", "given"] (defScope s_BadWorths___init__) := ⟨rfl, rfl, rfl, by decide +kernel, rfl, by decide +kernel, by decide +kernel⟩
theorem okx_BadWorths {P : Program} {w : World} {K : PySem.W.Frag} {mg : Str → Option Value} {base : Heap} (Dx : XDf K mg "BadWorths" "BadWorths.__init__" s_BadWorths___init__) (B : BaseX K mg "MeterError") : XFn P w K mg base "BadWorths" :=
  Dx.ok sc_BadWorths___init__ fun f cdv A outer s H E hr => pss_cons (ps_expr (pe_meinit B rfl (pa_cons (pv 0) (pa_cons pe_str pa_nil)))) (pss_one (ps_ost (pv 0) (pv 1)))

section
variable {P : Program} {w : World} {K : PySem.W.Frag} {mg : Str → Option Value} {base : Heap}
abbrev s_law_bag : Stmt := top 23
theorem sc_law_bag : FnScope ["_law_script"] ["_law_script"] (defScope s_law_bag) := ⟨rfl, rfl, rfl, by decide +kernel, rfl, by decide +kernel, by decide +kernel⟩
theorem ok_law_bag (Dd : Df K mg "_law_bag" s_law_bag ["_law_script"])  (T : Txt K mg) : FnP P w K mg base "_law_bag" 1 ["_law_script"] true sp_bag := by
  refine Dd.okQ sc_law_bag (fun f cdv A outer s H E hr tk po => ⟨_, (sp_one (s_retO (po_lst (pap_cons (pf_own (po_callTy call_listP c_list (by rfl) T.n_list (by decide +kernel) (pap_cons (pp_var (pv 0)) pap_nil))) (pap_cons pp_int (pap_cons pp_int (pap_cons pp_int (pap_cons pp_int pap_nil)))))))), fun ds M E0 Q0 hlen h => ?_⟩)
  obtain ⟨ns, h, k⟩ := h
  rcases h with rfl | rfl
  · walk_at "pg"
    exact k _ ⟨ns, 0, 0, 17, 0, rfl, by decide, by decide⟩
  · walk_at "pg"
    exact k _ ⟨ns, 0, 0, 17, 0, rfl, by decide, by decide⟩
abbrev s_law_draw : Stmt := top 24
theorem sc_law_draw : FnScope ["_law_bag_here", "_law_size", "_law_cell", "_law_digit", "_law_mixed_here"] ["_law_bag_here", "_law_size"] (defScope s_law_draw) := ⟨rfl, rfl, rfl, by decide +kernel, rfl, by decide +kernel, by decide +kernel⟩
theorem ok_law_draw (Dd : Df K mg "_law_draw" s_law_draw ["_law_bag_here", "_law_size"])  (T : Txt K mg) : FnP P w K mg base "_law_draw" 1 ["_law_bag_here", "_law_size"] false sp_draw := by
  refine Dd.okQ sc_law_draw (fun f cdv A outer s H E hr tk po => ⟨_, (sp_cons (s_put (pp_op op_addF v_add (pp_ix (pb_slot (pv 0)) pp_int (fun _ _ => rfl)) pp_int) (pg_sub (pb_slot (pv 0)) pp_int set_F))
      (sp_cons (s_if (PW.pt (pwp_and (ptp_cmp (op_eqP (K := K) hr.units) v_eq (pp_ix (pb_slot (pv 0)) pp_int (fun _ _ => rfl)) pp_int (nomark _)) (pwp_and1 (ptp_cmp op_ltF v_lt (pp_ix (pb_slot (pv 0)) pp_int (fun _ _ => rfl)) (pp_callB call_lenP c_len (by rfl) T.n_len (by decide +kernel) (pap_cons (pp_ix (pb_slot (pv 0)) pp_int (fun _ _ => rfl)) pap_nil)) (nomark _))))) (sp_cons (s_set (i := 2) sc_law_draw.nd rfl (Or.inl rfl) (pp_ix (pb_val (pp_ix (pb_slot (pv 0)) pp_int (fun _ _ => rfl))) (pp_ix (pb_slot (pv 0)) pp_int (fun _ _ => rfl)) (fun _ _ => rfl)))
      (sp_cons (s_put (pp_op op_addF v_add (pp_ix (pb_slot (pv 0)) pp_int (fun _ _ => rfl)) pp_int) (pg_sub (pb_slot (pv 0)) pp_int set_F))
      (sp_cons (s_put (pp_op op_mulF v_mul (pp_op op_addF v_add (pp_op op_mulF v_mul pp_int (pp_callB call_absF c_abs (by rfl) T.n_abs (by decide +kernel) (pap_cons (pp_var (pv 2)) pap_nil))) (pp_callTy call_intF' c_int (by rfl) T.n_int (by decide +kernel) (pap_cons (pp_cmp op_ltF v_lt (pp_var (pv 2)) pp_int (nomark _)) pap_nil))) (pp_callTy call_intF' c_int (by rfl) T.n_int (by decide +kernel) (pap_cons (pp_cmp op_geF v_ge (pp_callB call_absF c_abs (by rfl) T.n_abs (by decide +kernel) (pap_cons (pp_var (pv 2)) pap_nil)) (pp_op op_powF v_pow pp_int pp_int) (nomark _)) pap_nil))) (pg_sub (pb_slot (pv 0)) pp_int set_F))
      (sp_one (s_put (pp_op op_modF v_mod (pp_callTy call_intF' c_int (by rfl) T.n_int (by decide +kernel) (pap_cons (pp_op op_addF v_add (pp_op op_addF v_add (pp_op op_mulF v_mul (pp_ix (pb_slot (pv 0)) pp_int (fun _ _ => rfl)) pp_int) (pp_op op_mulF v_mul (pp_var (pv 2)) pp_int)) pp_int) pap_nil)) pp_int) (pg_sub (pb_slot (pv 0)) pp_int set_F)))))) sp_nil)
      (sp_cons (s_set (i := 3) sc_law_draw.nd rfl (Or.inl rfl) (pp_op op_modF v_mod (pp_callTy call_intF' c_int (by rfl) T.n_int (by decide +kernel) (pap_cons (pp_ix (pb_slot (pv 0)) pp_int (fun _ _ => rfl)) pap_nil)) (pp_var (pv 1))))
      (sp_cons (s_if (ptp_cmp op_gtF v_gt (pp_ix (pb_slot (pv 0)) pp_int (fun _ _ => rfl)) pp_int (nomark _)) (sp_cons (s_put (pp_op op_fdivF v_fdiv (pp_ix (pb_slot (pv 0)) pp_int (fun _ _ => rfl)) (pp_var (pv 1))) (pg_sub (pb_slot (pv 0)) pp_int set_F))
      (sp_one (s_ret (pp_var (pv 3))))) sp_nil)
      (sp_cons (s_set (i := 4) sc_law_draw.nd rfl (Or.inl rfl) (pp_op op_modF v_mod (pp_callTy call_intF' c_int (by rfl) T.n_int (by decide +kernel) (pap_cons (pp_op op_addF v_add (pp_ix (pb_slot (pv 0)) pp_int (fun _ _ => rfl)) (pp_op op_mulF v_mul (pp_ix (pb_slot (pv 0)) pp_int (fun _ _ => rfl)) pp_int)) pap_nil)) pp_int))
      (sp_cons (s_set (i := 4) sc_law_draw.nd rfl (Or.inl rfl) (pp_op op_modF v_mod (pp_callTy call_intF' c_int (by rfl) T.n_int (by decide +kernel) (pap_cons (pp_op op_addF v_add (pp_op op_addF v_add (pp_op op_powF v_pow (pp_var (pv 4)) pp_int) (pp_op op_mulF v_mul (pp_ix (pb_slot (pv 0)) pp_int (fun _ _ => rfl)) pp_int)) pp_int) pap_nil)) pp_int))
      (sp_one (s_ret (pp_op op_modF v_mod (pp_op op_fdivF v_fdiv (pp_op op_modF v_mod (pp_callTy call_intF' c_int (by rfl) T.n_int (by decide +kernel) (pap_cons (pp_op op_powF v_pow (pp_var (pv 4)) pp_int) pap_nil)) pp_int) pp_int) (pp_var (pv 1))))))))))), fun ds M E0 Q0 hlen h => ?_⟩)
  obtain ⟨b, n, rfl, ⟨c, hb, ns, i, big, mix, cnt, rfl, hi, hbig⟩, hn0, hn1, k⟩ := h
  have cm : ∀ x y : Int, -(2 ^ 64) < y ∧ y < 2 ^ 64 → CMul x y := fun x y h => .inr h
  have cp : ∀ x m k : Int, 0 < m → m < 2 ^ 60 → 0 ≤ k → k ≤ 1000 → CPow (x % m) k := fun x m k h1 h2 h3 h4 => by
    have a := Int.emod_nonneg x (show m ≠ 0 by omega)
    have b := Int.emod_lt_of_pos x h1
    exact ⟨h3, by omega, by omega⟩
  have fin : ∀ (x i' big' mix' cnt' : Int), 0 ≤ i' → 0 ≤ big' → Q0 (.int (x % n)) (updM M b (.lst [.lst (ns.map D.int), .int i', .int big', .int mix', .int cnt'])) := fun x i' big' mix' cnt' h1 h2 =>
    k _ _ (Int.emod_nonneg x (by omega)) (Int.emod_lt_of_pos x hn0) ⟨ns, i', big', mix', cnt', rfl, h1, h2⟩
  have i01 : ∀ (p : Prop) [Decidable p], -(2 ^ 64) < (if p then (1 : Int) else 0) ∧ (if p then (1 : Int) else 0) < 2 ^ 64 := fun p _ => by split <;> decide
  have n01 : ∀ x : Int, 0 ≤ ((2 * if x < 0 then -x else x) + if x < 0 then 1 else 0) * (if 10 ^ 18 ≤ if x < 0 then -x else x then 1 else 0) := fun x => by
    have h2 : ∀ (p : Prop) [Decidable p], (0 : Int) ≤ if p then 1 else 0 := fun p _ => by split <;> decide
    refine Int.mul_nonneg ?_ (h2 _)
    have := h2 (x < 0)
    have h3 : (0 : Int) ≤ if x < 0 then -x else x := by split <;> omega
    omega
  rw [updM_id hb]
  walk_at "pg"
  rw [List.length_map]
  have tl : ∀ (i' big' mix' cnt' : Int), 0 ≤ i' → 0 ≤ big' → (if 0 < big' then CDiv big' n ∧ Q0 (.int (big' % n)) (updM M b (.lst [.lst (ns.map D.int), .int i', .int (big' / n), .int mix', .int cnt'])) else
      CMul cnt' 40692 ∧ CPow ((mix' + cnt' * 40692) % 2147483647) 3 ∧ CMul cnt' 16807 ∧ CPow ((((mix' + cnt' * 40692) % 2147483647) ^ 3 + cnt' * 16807 + 7) % 2147483629) 2 ∧
      CDiv (((((mix' + cnt' * 40692) % 2147483647) ^ 3 + cnt' * 16807 + 7) % 2147483629) ^ 2 % 2147483587) 8 ∧ 0 < n ∧
      Q0 (.int (((((mix' + cnt' * 40692) % 2147483647) ^ 3 + cnt' * 16807 + 7) % 2147483629) ^ 2 % 2147483587 / 8 % n)) (updM M b (.lst [.lst (ns.map D.int), .int i', .int big', .int mix', .int cnt']))) := fun i' big' mix' cnt' h1 h2 => by
    refine ite2 (fun h3 => ?_) (fun h3 => ?_)
    · exact ⟨⟨hn0, hn1⟩, fin _ _ _ _ _ h1 (Int.ediv_nonneg h2 (by omega))⟩
    · exact ⟨cm _ _ (by decide), cp _ _ _ (by decide) (by decide) (by decide) (by decide), cm _ _ (by decide), cp _ _ _ (by decide) (by decide) (by decide) (by decide), ⟨by decide, by decide⟩, hn0, fin _ _ _ _ _ h1 h2⟩
  refine ite2 (fun h1 => ?_) (fun h1 => ?_)
  · refine ite2 (fun h2 => ?_) (fun h2 => ?_)
    · have hlt : i.toNat < ns.length := by omega
      have hc : (List.map D.int ns)[i.toNat]? = some (.int ns[i.toNat]) := by
        rw [List.getElem?_map, List.getElem?_eq_getElem hlt]
        rfl
      rw [at_nn hi, hc]
      generalize ns[i.toNat] = cell
      walk_at "pw"
      exact ⟨.inl (by decide), ⟨by decide, by decide, by decide⟩, .inr (i01 _), cm _ _ (by decide), cm _ _ (by decide), hn0, tl _ _ _ _ (by omega) (n01 _)⟩
    · exact ⟨hn0, tl i big mix (cnt + 1) hi hbig⟩
  · exact ⟨hn0, tl i big mix (cnt + 1) hi hbig⟩
end

section
variable {P : Program} {w : World} {K : PySem.W.Frag} {mg : Str → Option Value} {base : Heap}
abbrev s_law_pick : Stmt := top 25
theorem sc_law_pick : FnScope ["_law_bag_here", "_law_items"] ["_law_bag_here", "_law_items"] (defScope s_law_pick) := ⟨rfl, rfl, rfl, by decide +kernel, rfl, by decide +kernel, by decide +kernel⟩
theorem ok_law_pick (Dd : Df K mg "_law_pick" s_law_pick ["_law_bag_here", "_law_items"]) (F_law_draw : FnP P w K mg base "_law_draw" 1 ["_law_bag_here", "_law_size"] false sp_draw) (T : Txt K mg) : FnP P w K mg base "_law_pick" 2 ["_law_bag_here", "_law_items"] false sp_pick := by
  refine Dd.okQ sc_law_pick (fun f cdv A outer s H E hr tk po => ⟨_, (sp_one (s_ret (pp_ix (pb_slot (pv 1)) (pp_fn tk F_law_draw (hr.mono (by decide)) rfl (pap_cons (pp_var (pv 0)) (pap_cons (pp_callB call_lenP c_len (by rfl) T.n_len (by decide +kernel) (pap_cons (pp_var (pv 1)) pap_nil)) pap_nil))) (fun _ _ => rfl)))), fun ds M E0 Q0 hlen h => ?_⟩)
  obtain ⟨b, xs, rfl, hB, hne, hlen2, k⟩ := h
  have hpos := List.length_pos_iff.mpr hne
  walk_at "pg"
  refine ⟨b, _, rfl, hB, by omega, by omega, fun r c h0 h1 hc => ?_⟩
  walk_at "pg"
  have hlt : r.toNat < xs.length := by omega
  rw [at_nn h0, List.getElem?_eq_getElem hlt]
  walk_at "pg"
  exact k _ c (List.getElem_mem hlt) hc
end

section
variable {P : Program} {w : World} {K : PySem.W.Frag} {mg : Str → Option Value} {base : Heap}
/-- a thing whose type can be asked for -/
def TyOk (d : D) : Prop := (∀ N, cn N d = d) ∧ ∃ T, tyD d = some T
def wholeB : D → Bool
  | .int _ => true
  | _ => false
def betB (a b : Int) : D → Bool
  | .int i => decide (a ≤ i) && decide (i ≤ b)
  | _ => false
def sp_is_whole : SpP := fun ds M E Q => ∃ d, ds = [d] ∧ TyOk d ∧ Q (.bl (wholeB d)) M
abbrev s_is_whole : Stmt := top 11
theorem sc_is_whole : FnScope ["value"] ["value"] (defScope s_is_whole) := ⟨rfl, rfl, rfl, by decide +kernel, rfl, by decide +kernel, by decide +kernel⟩
theorem ok_is_whole (Dd : Df K mg "is_whole" s_is_whole ["value"])  (T : Txt K mg) : FnP P w K mg base "is_whole" 1 ["value"] false sp_is_whole := by
  refine Dd.okQ sc_is_whole (fun f cdv A outer s H E hr tk po => ⟨_, (sp_one (s_ret (pp_and (pp_callB call_isiP c_isi (by rfl) T.n_isinstance (by decide +kernel) (pap_cons (pp_var (pv 0)) (pap_cons (pp_ty (T := "int") T.n_int) pap_nil))) (pp_one (pp_not (pp_callB call_isiP c_isi (by rfl) T.n_isinstance (by decide +kernel) (pap_cons (pp_var (pv 0)) (pap_cons (pp_ty (T := "bool") T.n_bool) pap_nil)))))))), fun ds M E0 Q0 hlen h => ?_⟩)
  obtain ⟨d, rfl, ⟨hcn, T, hT⟩, k⟩ := h
  cases d <;> first | (cases hT; done) | (cases hT; walk_at "pg"; exact k)
def sp_is_between : SpP := fun ds M E Q => ∃ d a b, ds = [d, .int a, .int b] ∧ TyOk d ∧ Q (.bl (betB a b d)) M
abbrev s_is_between : Stmt := top 12
theorem sc_is_between : FnScope ["value", "least", "most"] ["value", "least", "most"] (defScope s_is_between) := ⟨rfl, rfl, rfl, by decide +kernel, rfl, by decide +kernel, by decide +kernel⟩
theorem ok_is_between (Dd : Df K mg "is_between" s_is_between ["value", "least", "most"]) (F_is_whole : FnP P w K mg base "is_whole" 1 ["value"] false sp_is_whole) (T : Txt K mg) : FnP P w K mg base "is_between" 2 ["value", "least", "most"] false sp_is_between := by
  refine Dd.okQ sc_is_between (fun f cdv A outer s H E hr tk po => ⟨_, (sp_one (s_ret (pp_and (pp_fn tk F_is_whole (hr.mono (by decide)) rfl (pap_cons (pp_var (pv 0)) pap_nil)) (pp_one (pp_chain op_leF v_le op_leF v_le (pp_var (pv 1)) (pp_var (pv 0)) (pp_var (pv 2))))))), fun ds M E0 Q0 hlen h => ?_⟩)
  obtain ⟨d, a, b, rfl, ht, k⟩ := h
  walk_at "pg"
  refine ⟨d, rfl, ht, ?_⟩
  walk_at "pg"
  cases d with
  | int i =>
    rw [if_pos (show wholeB (.int i) = true from rfl)]
    walk_at "pg"
    refine ite2 (fun h1 => ?_) (fun h1 => ?_)
    · rw [show betB a b (.int i) = decide (i ≤ b) by unfold betB; simp [h1]] at k
      exact k
    · rw [show betB a b (.int i) = false by unfold betB; simp [h1]] at k
      exact k
  | _ =>
    first | exact k | (rw [if_neg (show ¬ (false = true) from Bool.false_ne_true)]; exact k)
def sp_is_speed : SpP := fun ds M E Q => ∃ d, ds = [d] ∧ TyOk d ∧ Q (.bl (betB 0 9 d)) M
abbrev s_is_speed : Stmt := top 13
theorem sc_is_speed : FnScope ["value"] ["value"] (defScope s_is_speed) := ⟨rfl, rfl, rfl, by decide +kernel, rfl, by decide +kernel, by decide +kernel⟩
theorem ok_is_speed (Dd : Df K mg "is_speed" s_is_speed ["value"]) (F_is_between : FnP P w K mg base "is_between" 2 ["value", "least", "most"] false sp_is_between) (T : Txt K mg) : FnP P w K mg base "is_speed" 3 ["value"] false sp_is_speed := by
  refine Dd.okQ sc_is_speed (fun f cdv A outer s H E hr tk po => ⟨_, (sp_one (s_ret (pp_fn tk F_is_between (hr.mono (by decide)) rfl (pap_cons (pp_var (pv 0)) (pap_cons pp_int (pap_cons (pp_gint T.g_GREATEST_SPEED) pap_nil)))))), fun ds M E0 Q0 hlen h => ?_⟩)
  obtain ⟨d, rfl, ht, k⟩ := h
  walk_at "pg"
  exact ⟨d, 0, 9, rfl, ht, k⟩
theorem compP_mapI {g : TGp} {te : TEp} {vs : List Nat} {chk : PHp → Prop} {Q : List D → PSt → PHp → Prop} (f : D → D) {ρ : PSt} {M : PHp} (hρ : wipeP ρ vs = ρ) (hc : chk M) (l : List D)
    (h : ∀ a ∈ l, ∀ (N1 : D → PSt → PHp → Prop), (∀ ρ', wipeP ρ' vs = ρ → N1 (f a) ρ' M) → g a ρ M fun ρ2 M2 => te ρ2 M2 noX N1) (q : Q (l.map f) ρ M) : compP g tYesP te vs chk Q l [] ρ M := by
  have z := compP_map (fun x => x) f hρ hc l h q
  rw [List.map_id'] at z
  exact z
def worthsB : D → Bool
  | .lst xs => decide (xs.length = 10) && xs.all (betB 0 60)
  | _ => false
theorem worths_lst (xs : List D) : worthsB (.lst xs) = (decide (xs.length = 10) && xs.all (betB 0 60)) := rfl
def sp_are_worths : SpP := fun ds M E Q => ∃ d, ds = [d] ∧ TyOk d ∧ (∀ xs, d = .lst xs → xs.length ≤ 100000 ∧ ∀ x ∈ xs, TyOk x) ∧ Q (.bl (worthsB d)) M
def sp_are_worthsR : SpP := fun ds M E Q => sp_are_worths ds M E Q ∨ ∃ a xs, ds = [.ref a] ∧ M a = some (.lst xs) ∧ worthsB (.lst xs) = true ∧ (∀ x ∈ xs, TyOk x) ∧ Q (.bl true) M
abbrev s_are_worths : Stmt := top 19
theorem sc_are_worths : FnScope ["value", "item"] ["value"] (defScope s_are_worths) := ⟨rfl, rfl, rfl, by decide +kernel, rfl, by decide +kernel, by decide +kernel⟩
theorem ok_are_worths (Dd : Df K mg "are_worths" s_are_worths ["value"]) (F_is_between : FnP P w K mg base "is_between" 2 ["value", "least", "most"] false sp_is_between) (T : Txt K mg) : FnP P w K mg base "are_worths" 3 ["value"] false sp_are_worthsR := by
  refine Dd.okQ sc_are_worths (fun f cdv A outer s H E hr tk po => ⟨_, (sp_cons (s_if (PW.pt (pwp_or (ptp_not (ptp_val (pp_callB call_isiP c_isi (by rfl) T.n_isinstance (by decide +kernel) (pap_cons (pp_var (pv 0)) (pap_cons (pp_ty (T := "list") T.n_list) pap_nil))))) (pwp_or1 (ptp_cmp (op_neP (K := K) hr.units) v_eq (pp_callB call_lenP c_len (by rfl) T.n_len (by decide +kernel) (pap_cons (pp_var (pv 0)) pap_nil)) (pp_op op_addF v_add (pp_gint T.g_GREATEST_SPEED) pp_int) (nomark _))))) (sp_one (s_ret pp_bl)) sp_nil)
      (sp_one (s_ret (pp_callB (call_allF rfl) c_all (by rfl) T.n_all (by decide +kernel) (pap_cons (pf_own (po_lc (own := [("item", 1)]) rfl sc_are_worths.nd (ip_lst (pp_var (pv 0))) (blkOk_by (own := [("item", 1)]) (N := ["value", "item"]) (sc := defScope s_are_worths) (by decide +kernel)) (fun _ _ _ _ _ => (pgp_name (i := 1) sc_are_worths.nd rfl (Or.inl rfl))) (fun _ _ _ _ _ => ptsp_nil) (fun _ _ _ _ _ => (pp_fn takes0 F_is_between (hr.mono (by decide)) rfl (pap_cons (pp_var (pv 1)) (pap_cons pp_int (pap_cons (pp_gint T.g_GREATEST_WORTH) pap_nil))))))) pap_nil))))), fun ds M E0 Q0 hlen h => ?_⟩)
  rcases h with h | ⟨a, xs, rfl, hM, hw, hx, k⟩
  rotate_left
  · have hw2 := hw
    rw [worths_lst, Bool.and_eq_true, decide_eq_true_eq] at hw2
    obtain ⟨hl, hall⟩ := hw2
    walk_at "pg"
    rw [hM]
    walk_at "pg"
    try rw [hM]
    walk_at "pg"
    refine ⟨xs, hM, by omega, compP_mapI (fun x => .bl (betB 0 60 x)) rfl hM xs (fun x hxm N1 hN => ?_) ?_⟩
    · walk_at "pg"
      refine ⟨x, 0, 60, rfl, hx x hxm, ?_⟩
      walk_at "pg"
      exact hN _ rfl
    · walk_at "pg"
      rw [List.all_map, show (id ∘ fun x => betB 0 60 x) = betB 0 60 from rfl, hall]
      exact k
  obtain ⟨d, rfl, ⟨hcn, T, hT⟩, hx, k⟩ := h
  cases d with
  | lst xs =>
    obtain ⟨hlen, hx⟩ := hx xs rfl
    walk_at "pg"
    refine ite2 (fun h1 => ?_) (fun h1 => ?_)
    · rw [show worthsB (.lst xs) = false by rw [worths_lst, decide_eq_false (by omega)]; rfl] at k
      exact k
    · have h1 : xs.length = 10 := by omega
      refine ⟨by omega, compP_mapI (fun x => .bl (betB 0 60 x)) rfl trivial xs (fun x hxm N1 hN => ?_) ?_⟩
      · walk_at "pg"
        refine ⟨x, 0, 60, rfl, hx x hxm, ?_⟩
        walk_at "pg"
        exact hN _ rfl
      · walk_at "pg"
        rw [worths_lst, h1] at k
        rw [List.all_map]
        exact k
  | _ => first | (cases hT; done) | (cases hT; walk_at "pg"; exact k)
end
section
variable {P : Program} {w : World} {K : PySem.W.Frag} {mg : Str → Option Value} {base : Heap}
def sp_Table___init__ : SpP := fun ds M E Q => ∃ x d, ds = [.ref x, d] ∧ M x = some (.obj "Table" []) ∧ TyOk d ∧ (∀ xs, d = .lst xs → xs.length ≤ 100000 ∧ ∀ x ∈ xs, TyOk x) ∧ (∀ xs, d = .lst xs → worthsB d = true → Q .non (updM M x (.obj "Table" [("row", .tup xs)]))) ∧ (worthsB d = false → E "BadWorths" d M)
def sp_Table_initR : SpP := fun ds M E Q => sp_Table___init__ ds M E Q ∨ ∃ x a xs, ds = [.ref x, .ref a] ∧ M x = some (.obj "Table" []) ∧ M a = some (.lst xs) ∧ worthsB (.lst xs) = true ∧ (∀ x ∈ xs, TyOk x) ∧ Q .non (updM M x (.obj "Table" [("row", .tup xs)]))
abbrev s_Table___init__ : Stmt := inClass (top 20) 0
theorem sc_Table___init__ : FnScope ["self", "worths"] ["self", "worths"] (defScope s_Table___init__) := ⟨rfl, rfl, rfl, by decide +kernel, rfl, by decide +kernel, by decide +kernel⟩
theorem ok_Table___init__ (Dd : MDf K "__init__" "Table.__init__" s_Table___init__ ["self", "worths"] (KdI K mg "Table")) (F_are_worths : FnP P w K mg base "are_worths" 3 ["value"] false sp_are_worthsR) (X_BadWorths : XFn P w K mg base "BadWorths") (T : Txt K mg) : MtF P w K mg base (KdI K mg "Table") 4 2 false sp_Table_initR := by
  refine Dd.ok sc_Table___init__ (fun f cdv A outer s H E hr tk po => ⟨_, (sp_cons (s_if (ptp_not (ptp_val (pp_fn tk F_are_worths (hr.mono (by decide)) rfl (pap_cons (pp_var (pv 1)) pap_nil)))) (sp_one (s_raise rfl tk X_BadWorths (hr.mono (by decide)) rfl (pp_var (pv 1)))) sp_nil)
      (sp_one (s_fld T.f_Table_row (pb_slot (pv 0)) (pp_callTy call_tupP c_tup (by rfl) T.n_tuple (by decide +kernel) (pap_cons (pp_var (pv 1)) pap_nil))))), fun ds M E0 Q0 hlen h => ?_⟩)
  rcases h with h | ⟨x, a, xs, rfl, hM, hMa, hw, hx, k⟩
  rotate_left
  · have hxa : a ≠ x := fun z => by rw [z, hM] at hMa; cases hMa
    rw [updM_id hM]
    walk_at "pg"
    refine .inr ⟨a, xs, rfl, (updM_ne hxa).trans hMa, hw, hx, ?_⟩
    walk_at "pg"
    rw [updM_ne hxa, hMa]
    walk_at "pg"
    exact k
  obtain ⟨x, d, rfl, hM, ht, hx, k1, k2⟩ := h
  rw [updM_id hM]
  walk_at "pg"
  refine Or.inl ⟨d, rfl, ht, hx, ?_⟩
  walk_at "pg"
  refine ite2 (fun h1 => ?_) (fun h1 => ?_)
  · rw [← updM_id hM]
    exact k2 (by simpa using h1)
  · have h1 : worthsB d = true := by simpa using h1
    cases d with
    | lst xs =>
      walk_at "pg"
      exact k1 xs rfl h1
    | _ => cases h1
end
section
variable {P : Program} {w : World} {K : PySem.W.Frag} {mg : Str → Option Value} {base : Heap}
def tabD (ws : List Int) : D := .obj "Table" [("row", .tup (ws.map D.int))]
theorem tab_row (ws : List Int) : List.lookup ("row" : Str) [(("row" : Str), D.tup (ws.map D.int))] = some (.tup (ws.map D.int)) := rfl
theorem eqDs_ints : ∀ ws vs : List Int, eqDs (ws.map D.int) (vs.map D.int) = decide (ws = vs)
  | [], [] => rfl
  | [], _ :: _ => rfl
  | _ :: _, [] => rfl
  | a :: r, b :: t => by
    rw [List.map_cons, List.map_cons, e_c, e_ii, eqDs_ints r t, Bool.eq_iff_iff]
    simp
theorem plain_ints {n : Nat} (ws : List Int) : (ws.map D.int).all (plain n) = true := by
  rw [List.all_map, List.all_eq_true]
  intro x _
  exact l_int
theorem logI {i : Int} (h0 : 0 ≤ i) (h1 : i ≤ 100000) : i.natAbs.log2 < 1920 := by
  obtain ⟨n, rfl⟩ := Int.eq_ofNat_of_zero_le h0
  exact lg (by omega)
theorem numS_len {i : Int} (h0 : 0 ≤ i) (h1 : i < 10000) : (numS i).length ≤ 4 := by
  obtain ⟨n, rfl⟩ := Int.eq_ofNat_of_zero_le h0
  rw [numS_nat]
  exact TL.numL_len (k := 4) (by decide) (by omega)
def sp_Table_worths : SpP := fun ds M E Q => ∃ ws, ds = [tabD ws] ∧ ws.length ≤ 1000 ∧ Q (.lst (ws.map D.int)) M
abbrev s_Table_worths : Stmt := inClass (top 20) 5
theorem sc_Table_worths : FnScope ["self"] ["self"] (defScope s_Table_worths) := ⟨rfl, rfl, rfl, by decide +kernel, rfl, by decide +kernel, by decide +kernel⟩
theorem ok_Table_worths (Dd : MDf K "worths" "Table.worths" s_Table_worths ["self"] (KdP K mg "Table" "worths"))  (T : Txt K mg) : MtF P w K mg base (KdP K mg "Table" "worths") 1 1 true sp_Table_worths := by
  refine Dd.ok sc_Table_worths (fun f cdv A outer s H E hr tk po => ⟨_, (sp_one (s_retO (po_callTy call_listP c_list (by rfl) T.n_list (by decide +kernel) (pap_cons (pp_fld T.f_Table_row (pb_slot (pv 0))) pap_nil)))), fun ds M E0 Q0 hlen h => ?_⟩)
  obtain ⟨ws, rfl, hl, k⟩ := h
  unfold tabD
  walk_at "pg"
  rw [tab_row]
  walk_at "pg"
  exact k
def sp_Table___getitem__ : SpP := fun ds M E Q => ∃ ws d, ds = [tabD ws, d] ∧ ws.length = 10 ∧ TyOk d ∧ (betB 0 9 d = false → E "BadSpeed" d M) ∧ (∀ i, d = .int i → 0 ≤ i → i ≤ 9 → ∀ x, ws[i.toNat]? = some x → Q (.int x) M)
abbrev s_Table___getitem__ : Stmt := inClass (top 20) 6
theorem sc_Table___getitem__ : FnScope ["self", "speed"] ["self", "speed"] (defScope s_Table___getitem__) := ⟨rfl, rfl, rfl, by decide +kernel, rfl, by decide +kernel, by decide +kernel⟩
theorem ok_Table___getitem__ (Dd : MDf K "__getitem__" "Table.__getitem__" s_Table___getitem__ ["self", "speed"] (KdG K mg "Table")) (F_is_speed : FnP P w K mg base "is_speed" 3 ["value"] false sp_is_speed) (X_BadSpeed : XFn P w K mg base "BadSpeed") (T : Txt K mg) : MtF P w K mg base (KdG K mg "Table") 4 2 false sp_Table___getitem__ := by
  refine Dd.ok sc_Table___getitem__ (fun f cdv A outer s H E hr tk po => ⟨_, (sp_cons (s_if (ptp_not (ptp_val (pp_fn tk F_is_speed (hr.mono (by decide)) rfl (pap_cons (pp_var (pv 1)) pap_nil)))) (sp_one (s_raise rfl tk X_BadSpeed (hr.mono (by decide)) rfl (pp_var (pv 1)))) sp_nil)
      (sp_one (s_ret (pp_ix (pb_val (pp_fld T.f_Table_row (pb_slot (pv 0)))) (pp_var (pv 1)) (fun _ _ => rfl))))), fun ds M E0 Q0 hlen h => ?_⟩)
  obtain ⟨ws, d, rfl, hl, ht, k1, k2⟩ := h
  unfold tabD
  walk_at "pg"
  refine ⟨d, rfl, ht, ?_⟩
  walk_at "pg"
  refine ite2 (fun h1 => ?_) (fun h1 => ?_)
  · exact k1 (by simpa using h1)
  · have h1 : betB 0 9 d = true := by simpa using h1
    cases d with
    | int i =>
      have h2 : 0 ≤ i ∧ i ≤ 9 := by
        have : (decide (0 ≤ i) && decide (i ≤ 9)) = true := h1
        simpa using this
      walk_at "pg"
      rw [tab_row]
      walk_at "pw"
      have hlt : i.toNat < ws.length := by omega
      rw [at_nn h2.1, List.getElem?_map, List.getElem?_eq_getElem hlt]
      walk_at "pw"
      exact k2 i rfl h2.1 h2.2 _ (List.getElem?_eq_getElem hlt)
    | _ => cases h1
def sp_Table_text : SpP := fun ds M E Q => ∃ ws, ds = [tabD ws] ∧ ws.length ≤ 1000 ∧ (∀ x ∈ ws, 0 ≤ x ∧ x ≤ 60) ∧ Q (.str (TL.joinL [32] (ws.map numS))) M
abbrev s_Table_text : Stmt := inClass (top 20) 9
theorem sc_Table_text : FnScope ["self", "worth"] ["self"] (defScope s_Table_text) := ⟨rfl, rfl, rfl, by decide +kernel, rfl, by decide +kernel, by decide +kernel⟩
theorem ok_Table_text (Dd : MDf K "text" "Table.text" s_Table_text ["self"] (KdM K mg "Table" "text"))  (T : Txt K mg) : MtF P w K mg base (KdM K mg "Table" "text") 1 1 false sp_Table_text := by
  refine Dd.ok sc_Table_text (fun f cdv A outer s H E hr tk po => ⟨_, (sp_one (s_ret (pp_join (pp_str z_5) (pf_own (po_lc (own := [("worth", 1)]) rfl sc_Table_text.nd (ip_tup (pp_fld T.f_Table_row (pb_slot (pv 0)))) (blkOk_by (own := [("worth", 1)]) (N := ["self", "worth"]) (sc := defScope s_Table_text) (by decide +kernel)) (fun _ _ _ _ _ => (pgp_name (i := 1) sc_Table_text.nd rfl (Or.inl rfl))) (fun _ _ _ _ _ => ptsp_nil) (fun _ _ _ _ _ => (pp_callTy call_strF c_str (by rfl) T.n_str (by decide +kernel) (pap_cons (pp_var (pv 1)) pap_nil)))))))), fun ds M E0 Q0 hlen h => ?_⟩)
  obtain ⟨ws, rfl, hl, hb, k⟩ := h
  unfold tabD
  walk_at "pg"
  rw [tab_row]
  walk_at "pg"
  refine ⟨by rw [List.length_map]; omega, compP_map D.int (fun x => .str (numS x)) rfl trivial ws (fun x hx N1 hN => ?_) ?_⟩
  · walk_at "pg"
    exact ⟨logI (hb x hx).1 (by have := (hb x hx).2; omega), hN _ rfl⟩
  · rw [show ws.map (fun x => D.str (numS x)) = (ws.map numS).map D.str by rw [List.map_map]; rfl]
    walk_at "pg"
    refine ⟨?_, k⟩
    have hs := sum_le (fun x => (numS x).length) 4 ws fun x hx => numS_len (hb x hx).1 (by have := (hb x hx).2; omega)
    rw [List.map_map, List.length_map]
    have e : ((fun x : List Nat => x.length) ∘ numS) = fun x => (numS x).length := rfl
    rw [e]
    omega
def natB : D → Bool
  | .int i => decide (0 ≤ i)
  | _ => false
theorem nat_or (d : D) : wholeB d = false ∨ (∃ i, d = .int i ∧ i < 0) ∨ ∃ i, d = .int i ∧ 0 ≤ i := by
  cases d with
  | int i =>
    by_cases h : 0 ≤ i
    · exact .inr (.inr ⟨i, rfl, h⟩)
    · exact .inr (.inl ⟨i, rfl, by omega⟩)
  | _ => exact .inl rfl
theorem nat_no {d : D} (h : wholeB d = false) : natB d = false := by
  cases d with
  | int i => cases h
  | _ => rfl
end

section
variable {P : Program} {w : World} {K : PySem.W.Frag} {mg : Str → Option Value} {base : Heap}
def sp_Table_same : SpP := fun ds M E Q => ∃ ws vs, ds = [tabD ws, tabD vs] ∧ Q (.bl (decide (ws = vs))) M
abbrev s_Table_same : Stmt := inClass (top 20) 8
theorem sc_Table_same : FnScope ["self", "other"] ["self", "other"] (defScope s_Table_same) := ⟨rfl, rfl, rfl, by decide +kernel, rfl, by decide +kernel, by decide +kernel⟩
theorem ok_Table_same (Dd : MDf K "same" "Table.same" s_Table_same ["self", "other"] (KdM K mg "Table" "same"))  (T : Txt K mg) : MtF P w K mg base (KdM K mg "Table" "same") 1 2 false sp_Table_same := by
  refine Dd.ok sc_Table_same (fun f cdv A outer s H E hr tk po => ⟨_, (sp_one (s_ret (pp_cmp (op_eqP (K := K) hr.units) v_eq (pp_fld T.f_Table_row (pb_slot (pv 0))) (pp_fld T.f_Table_row (pb_slot (pv 1))) (nomark _)))), fun ds M E0 Q0 hlen h => ?_⟩)
  obtain ⟨ws, vs, rfl, k⟩ := h
  unfold tabD
  walk_at "pg"
  rw [tab_row]
  walk_at "pg"
  rw [tab_row]
  walk_at "pg"
  rw [eqDs_ints]
  exact ⟨⟨plain_ints ws, plain_ints vs⟩, k⟩
end

section
variable {P : Program} {w : World} {K : PySem.W.Frag} {mg : Str → Option Value} {base : Heap}
/-- what comes of a list of worths -/
def Made (ws : List Int) (M : PHp) (E : XC) (Q : D → PHp → Prop) : Prop := (worthsB (.lst (ws.map D.int)) = true → Q (tabD ws) M) ∧ (worthsB (.lst (ws.map D.int)) = false → E "BadWorths" (.lst (ws.map D.int)) M)
theorem ty_ints (ws : List Int) : ∀ x ∈ ws.map D.int, TyOk x := fun x hx => by
  obtain ⟨i, _, rfl⟩ := List.mem_map.mp hx
  exact ⟨fun _ => rfl, _, rfl⟩
def eithW (i j : Int) : List Int := (List.range 10).map fun s : Nat => if j * (s : Int) > i then j * (s : Int) else i
def bothW (i j : Int) : List Int := (List.range 10).map fun s : Nat => i + j * (s : Int)
def chgW (i j c : Int) : List Int := (List.range 10).map fun s : Nat => if (s : Int) < c then i else j * (s : Int)
end

section
variable {P : Program} {w : World} {K : PySem.W.Frag} {mg : Str → Option Value} {base : Heap}
theorem eqDs_refl {n : Nat} (ih : ∀ d, plain n d = true → eqD d d = true) : ∀ ds : List D, ds.all (plain n) = true → eqDs ds ds = true
  | [], _ => rfl
  | d :: ds, h => by
    rw [List.all_cons, Bool.and_eq_true] at h
    rw [e_c, ih d h.1, eqDs_refl ih ds h.2]
    rfl
theorem eqD_refl (n : Nat) : ∀ d : D, plain n d = true → eqD d d = true := by
  induction n with
  | zero => intro d h; cases d <;> first | (cases h; done) | exact e_nn | (rw [e_bb]; exact decide_eq_true rfl) | (rw [e_ii]; exact decide_eq_true rfl) | (rw [e_ss]; exact decide_eq_true rfl)
  | succ n ih => intro d h; cases d <;> first | (cases h; done) | exact e_nn | (rw [e_bb]; exact decide_eq_true rfl) | (rw [e_ii]; exact decide_eq_true rfl) | (rw [e_ss]; exact decide_eq_true rfl) | (rw [e_ll]; exact eqDs_refl ih _ h) | (rw [e_tt]; exact eqDs_refl ih _ h)
theorem cn_plain {n : Nat} {d : D} (M : PHp) (h : plain n d = true) : cn M d = d := by
  cases d with
  | ref a => cases n <;> cases h
  | _ => rfl
theorem eqR_same {d : D} {p : Bool} {ρ : PSt} {M : PHp} {E : XP} {Q : QP} (h : plain 12 d = true) (q : Q (.bl (xor p true)) ρ M) : eqR p d d ρ M E Q := by
  have e := eqD_refl 12 d h
  cases d with
  | int i => rw [d_eq1, decide_eq_true rfl]; exact q
  | str l => rw [d_eq2, decide_eq_true rfl]; exact q
  | non => rw [d_eq5, e]; exact ⟨⟨h, h⟩, q⟩
  | bl b => rw [d_eq6, e]; exact ⟨⟨h, h⟩, q⟩
  | lst l => rw [d_eq3, e]; exact ⟨⟨h, h⟩, q⟩
  | tup l => rw [d_eq4, e]; exact ⟨⟨h, h⟩, q⟩
  | _ => cases h
theorem rangeD_at {lo : Int} {n i : Nat} {x : D} (h : (rangeD lo n)[i]? = some x) : i < n ∧ x = .int (lo + (i : Int)) := by
  have hi := (List.getElem?_eq_some_iff.mp h).1
  simp only [rangeD, List.length_map, List.length_range] at hi
  unfold rangeD at h
  rw [List.getElem?_map, List.getElem?_range hi] at h
  cases h
  exact ⟨hi, rfl⟩
theorem rangeD_len (lo : Int) (n : Nat) : (rangeD lo n).length = n := by simp [rangeD]
/-- the law's own worths -/
def dueF (s i j c : Int) (k : Nat) : Int := if s = 0 then (if j * (k : Int) > i then j * (k : Int) else i) else if s = 1 then i + j * (k : Int) else if (k : Int) < c then i else j * (k : Int)
def dueW (s i j c : Int) : List Int := (List.range 10).map (dueF s i j c)
def goodW (ws : List Int) : Bool := worthsB (.lst (ws.map D.int))
def dueD (ws : List Int) : D := if goodW ws = true then .lst (ws.map D.int) else .tup [.str [119, 111, 114, 116, 104, 115], .lst (ws.map D.int), .bl true]
theorem due_len (s i j c : Int) : (dueW s i j c).length = 10 := by unfold dueW; rw [List.length_map, List.length_range]
theorem mul_nn {j : Int} {k : Nat} (h : 0 ≤ j) : 0 ≤ j * (k : Int) := Int.mul_nonneg h (Int.natCast_nonneg k)
theorem due_nn {s i j c : Int} (hi : 0 ≤ i) (hj : 0 ≤ j) : ∀ x ∈ dueW s i j c, 0 ≤ x := by
  intro x hx
  obtain ⟨k, _, rfl⟩ := List.mem_map.mp hx
  have := mul_nn (k := k) hj
  unfold dueF
  split
  · split <;> omega
  · split
    · omega
    · split <;> omega
theorem good_iff {ws : List Int} : goodW ws = true ↔ ws.length = 10 ∧ ∀ x ∈ ws, 0 ≤ x ∧ x ≤ 60 := by
  unfold goodW
  rw [worths_lst, List.length_map, Bool.and_eq_true, decide_eq_true_eq, List.all_map, List.all_eq_true]
  refine and_congr Iff.rfl (forall_congr' fun x => imp_congr Iff.rfl ?_)
  show ((decide (0 ≤ x) && decide (x ≤ 60)) = true) ↔ _
  simp
theorem max_good {ws : List Int} (hl : ws.length = 10) (h0 : ∀ x ∈ ws, 0 ≤ x) : goodW ws = decide (maxI ws ≤ 60) := by
  have hne : ws ≠ [] := by intro z; rw [z] at hl; cases hl
  obtain ⟨h1, h2⟩ := maxI_spec hne
  rw [Bool.eq_iff_iff, good_iff, decide_eq_true_eq]
  refine ⟨fun h => (h.2 _ h1).2, fun h => ⟨hl, fun x hx => ⟨h0 x hx, by have := h2 x hx; omega⟩⟩⟩
end

section
variable {P : Program} {w : World} {K : PySem.W.Frag} {mg : Str → Option Value} {base : Heap}
theorem ten_in (c : Nat) : decide (c ∈ [48, 49, 50, 51, 52, 53, 54, 55, 56, 57]) = digB c := dec_ten c
def sp_number_in : SpP := fun ds M E Q => ∃ (l : List Nat) (most : Nat), ds = [.str l, .int (most : Int)] ∧ most ≤ 2000 ∧ l.length ≤ 100000 ∧ Q (.int (numberIn l most : Nat)) M
abbrev s_number_in : Stmt := top 16
theorem sc_number_in : FnScope ["word", "most", "sign"] ["word", "most"] (defScope s_number_in) := ⟨rfl, rfl, rfl, by decide +kernel, rfl, by decide +kernel, by decide +kernel⟩
theorem ok_number_in (Dd : Df K mg "number_in" s_number_in ["word", "most"])  (T : Txt K mg) : FnP P w K mg base "number_in" 1 ["word", "most"] false sp_number_in := by
  refine Dd.okQ sc_number_in (fun f cdv A outer s H E hr tk po => ⟨_, (sp_cons (s_if (PW.pt (pwp_or (ptp_not (ptp_chain op_leF v_le op_leF v_le pp_int (pp_callB call_lenP c_len (by rfl) T.n_len (by decide +kernel) (pap_cons (pp_var (pv 0)) pap_nil)) (pp_callB call_lenP c_len (by rfl) T.n_len (by decide +kernel) (pap_cons (pp_callTy call_strF c_str (by rfl) T.n_str (by decide +kernel) (pap_cons (pp_var (pv 1)) pap_nil)) pap_nil)))) (pwp_or (ptp_not (ptp_val (pp_callB (call_allF rfl) c_all (by rfl) T.n_all (by decide +kernel) (pap_cons (pf_own (po_lc (own := [("sign", 2)]) rfl sc_number_in.nd (ip_str (pp_var (pv 0))) (blkOk_by (own := [("sign", 2)]) (N := ["word", "most", "sign"]) (sc := defScope s_number_in) (by decide +kernel)) (fun _ _ _ _ _ => (pgp_name (i := 2) sc_number_in.nd rfl (Or.inl rfl))) (fun _ _ _ _ _ => ptsp_nil) (fun _ _ _ _ _ => (pp_cmp (op_inP (K := K) (hu65 hr)) v_in (pp_var (pv 2)) (pp_gstr T.g_DIGITS z_8) (by rfl))))) pap_nil)))) (pwp_or1 (ptp_cmp (op_eqP (K := K) hr.units) v_eq (pp_ix (pb_slot (pv 0)) pp_int (fun _ _ => rfl)) (pp_str z_4) (nomark _)))))) (sp_one (s_ret pp_int)) sp_nil)
      (sp_one (s_ret (pp_ifExp (ptp_cmp op_leF v_le (pp_callTy call_intF' c_int (by rfl) T.n_int (by decide +kernel) (pap_cons (pp_var (pv 0)) pap_nil)) (pp_var (pv 1)) (nomark _)) (pp_callTy call_intF' c_int (by rfl) T.n_int (by decide +kernel) (pap_cons (pp_var (pv 0)) pap_nil)) pp_int)))), fun ds M E0 Q0 hlen h => ?_⟩)
  obtain ⟨l, m, rfl, hm, hl, k⟩ := h
  have hn := TL.numL_len (n := m) (k := 4) (by decide) (by omega)
  have h00 : ∀ b, okNum l (TL.numL m).length = b → b = false → numberIn l m = 0 := fun b e h => by
    unfold numberIn
    rw [if_neg (by rw [e, h]; exact Bool.false_ne_true)]
  walk_at "pg"
  rw [numS_nat]
  refine ite2 (fun h1 => ?_) (fun h1 => ?_)
  · refine ⟨lg (by omega), by omega, ite2 (fun h2 => ?_) (fun h2 => ⟨by rw [List.length_map]; omega, ?_⟩)⟩
    · rw [h00 _ rfl (by unfold okNum; rw [decide_eq_false (show ¬ l.length ≤ _ by omega)]; simp)] at k
      exact k
    · refine compP_map (fun c => .str [c]) (fun c => .bl (digB c)) rfl trivial l (fun c hc N1 hN => ?_) ?_
      · walk_at "pg"
        rw [ten_in]
        exact hN _ rfl
      · walk_at "pg"
        rw [show (l.map digB).all id = l.all digB by rw [List.all_map]; rfl]
        refine ite2 (fun h3 => ?_) (fun h3 => ?_)
        · rw [h00 _ rfl (by unfold okNum; rw [h3]; simp)] at k
          exact k
        · have h3 : l.all digB = true := by simpa using h3
          obtain ⟨c, r, rfl⟩ : ∃ c r, l = c :: r := by
            cases l with
            | nil => exact absurd h1 (by decide)
            | cons c r => exact ⟨c, r, rfl⟩
          have hcl : (c :: r).length = r.length + 1 := rfl
          walk_at "pg"
          refine ite2 (fun h4 => ?_) (fun h4 => ?_)
          · rw [h00 _ rfl (by unfold okNum; subst h4; simp)] at k
            exact k
          · have h4 : c ≠ 48 := fun z => h4 (by simp [z])
            have hd : NumText.AllDigits (c :: r) := fun x hx => digB_iff.mp (List.all_eq_true.mp h3 x hx)
            have hok : okNum (c :: r) (TL.numL m).length = true := by
              unfold okNum
              rw [h3, decide_eq_true (show 1 ≤ (c :: r).length by simp), decide_eq_true (show (c :: r).length ≤ _ by omega), decide_eq_false (show ¬ (c :: r).head? = some 48 from fun z => h4 (Option.some.inj z))]
              rfl
            have hi : PySem.intText? (sL (c :: r)) = some (NumText.digitsVal (c :: r) : Int) := intText_digits (x := sL (c :: r)) hd (by simp) (by rw [len_sL]; omega)
            have hk : numberIn (c :: r) m = if NumText.digitsVal (c :: r) ≤ m then NumText.digitsVal (c :: r) else 0 := by
              unfold numberIn
              rw [if_pos hok]
            rw [hi]
            walk_at "pg"
            rw [hk] at k
            refine ite2 (fun h5 => ?_) (fun h5 => ?_)
            · rw [hi]
              walk_at "pg"
              rw [if_pos (by omega)] at k
              exact k
            · rw [if_neg (by omega)] at k
              exact k
  · rw [h00 _ rfl (by unfold okNum; rw [decide_eq_false (show ¬ 1 ≤ l.length by omega)]; simp)] at k
    exact k
end

section
variable {P : Program} {w : World} {K : PySem.W.Frag} {mg : Str → Option Value} {base : Heap}
theorem eqDs_strs : ∀ ws vs : List (List Nat), eqDs (ws.map D.str) (vs.map D.str) = decide (ws = vs)
  | [], [] => rfl
  | [], _ :: _ => rfl
  | _ :: _, [] => rfl
  | a :: r, b :: t => by
    rw [List.map_cons, List.map_cons, e_c, e_ss, eqDs_strs r t, Bool.eq_iff_iff]
    simp
theorem spl_mem (c : Nat) : ∀ (l acc : List Nat), ∀ p ∈ TL.spl [c] 0 acc l, ∀ x ∈ p, x ∈ acc ∨ x ∈ l
  | [], acc, p, h, x, hx => by
    rw [TL.spl_nil, List.mem_singleton] at h
    subst h
    exact .inl hx
  | y :: r, acc, p, h, x, hx => by
    by_cases hc : TL.pre [c] (y :: r) = true
    · rw [TL.spl_hit hc] at h
      rcases List.mem_cons.mp h with h | h
      · subst h
        exact .inl hx
      · rcases spl_mem c r [] p h x hx with h | h
        · cases h
        · exact .inr (List.mem_cons_of_mem _ h)
    · rw [TL.spl_miss (by simpa using hc)] at h
      rcases spl_mem c r (acc ++ [y]) p h x hx with h | h
      · rcases List.mem_append.mp h with h | h
        · exact .inl h
        · rw [List.mem_singleton] at h
          subst h
          exact .inr (List.mem_cons_self ..)
      · exact .inr (List.mem_cons_of_mem _ h)
theorem spl_len2 (c : Nat) : ∀ (l acc : List Nat), (TL.spl [c] 0 acc l).length ≤ l.length + 1 ∧ ∀ p ∈ TL.spl [c] 0 acc l, p.length ≤ acc.length + l.length
  | [], acc => by
    rw [TL.spl_nil]
    exact ⟨by simp, fun p h => by rw [List.mem_singleton] at h; subst h; simp⟩
  | y :: r, acc => by
    by_cases hc : TL.pre [c] (y :: r) = true
    · rw [TL.spl_hit hc]
      obtain ⟨h1, h2⟩ := spl_len2 c r []
      have e : List.drop 1 (y :: r) = r := rfl
      refine ⟨by simp only [List.length_cons]; simpa using h1, fun p h => ?_⟩
      rcases List.mem_cons.mp h with h | h
      · subst h
        simp
      · have := h2 p h
        simp only [List.length_cons, List.length_nil] at this ⊢
        omega
    · rw [TL.spl_miss (by simpa using hc)]
      obtain ⟨h1, h2⟩ := spl_len2 c r (acc ++ [y])
      refine ⟨by simp only [List.length_cons]; omega, fun p h => ?_⟩
      have := h2 p h
      simp only [List.length_append, List.length_cons, List.length_nil] at this ⊢
      omega
theorem numS_code {x : Int} (h : 0 ≤ x) : ∀ c ∈ numS x, 48 ≤ c ∧ c ≤ 57 := by
  obtain ⟨n, rfl⟩ := Int.eq_ofNat_of_zero_le h
  rw [numS_nat]
  exact fun c hc => by have := TL.numL_digits _ c hc; omega
def wordV (l : List Nat) : Int := if l = [48] then 0 else ((numberIn l 60 : Nat) : Int)
theorem wordV_le (l : List Nat) : 0 ≤ wordV l ∧ wordV l ≤ 60 := by
  unfold wordV
  split
  · omega
  · have : numberIn l 60 ≤ 60 := by
      unfold numberIn
      split
      · split <;> omega
      · omega
    omega
def readT (l : List Nat) : List Int := (splitL 32 l).map wordV
def readOk (l : List Nat) : Bool := decide ((readT l).map numS = splitL 32 l) && goodW (readT l)
def sp_Table_read : SpP := fun ds M E Q => (∃ d T, ds = [.fn "Table", d] ∧ (∀ N, cn N d = d) ∧ tyD d = some T ∧ (T == "str") = false ∧ E "BadText" d M) ∨ ∃ l, ds = [.fn "Table", .str l] ∧ l.length ≤ 50000 ∧ (∀ c ∈ l, c < 1114112) ∧ (readOk l = true → Q (tabD (readT l)) M) ∧ (readOk l = false → E "BadText" (.str l) M)
abbrev s_Table_read : Stmt := inClass (top 20) 4
theorem sc_Table_read : FnScope ["cls", "text", "words", "worths", "word", "worth"] ["cls", "text"] (defScope s_Table_read) := ⟨rfl, rfl, rfl, by decide +kernel, rfl, by decide +kernel, by decide +kernel⟩
theorem ok_Table_read (Dd : MDf K "read" "Table.read" s_Table_read ["cls", "text"] (KdC K mg "Table" "read")) (F_number_in : FnP P w K mg base "number_in" 1 ["word", "most"] false sp_number_in) (F_are_worths : FnP P w K mg base "are_worths" 3 ["value"] false sp_are_worthsR) (F_Table___init__ : MtF P w K mg base (KdI K mg "Table") 4 2 false sp_Table_initR) (X_BadText : XFn P w K mg base "BadText") (T : Txt K mg) : MtF P w K mg base (KdC K mg "Table" "read") 6 2 false sp_Table_read := by
  refine Dd.ok sc_Table_read (fun f cdv A outer s H E hr tk po => ⟨_, (sp_cons (s_if (ptp_not (ptp_val (pp_callB call_isiP c_isi (by rfl) T.n_isinstance (by decide +kernel) (pap_cons (pp_var (pv 1)) (pap_cons (pp_ty (T := "str") T.n_str) pap_nil))))) (sp_one (s_raise rfl tk X_BadText (hr.mono (by decide)) rfl (pp_var (pv 1)))) sp_nil)
      (sp_cons (s_set (i := 2) sc_Table_read.nd rfl (Or.inl rfl) (pf_own (po_split (pp_var (pv 1)) (pp_str z_5))))
      (sp_cons (s_setLc (i := 3) (own := [("word", 4)]) rfl sc_Table_read.nd rfl rfl (sw_true rfl rfl rfl (by decide +kernel)) (ip_lst (pp_var (pv 2))) (blkOk_by (own := [("word", 4)]) (N := ["cls", "text", "words", "worths", "word", "worth"]) (sc := defScope s_Table_read) (by decide +kernel)) (fun _ _ _ _ _ => (pgp_name (i := 4) sc_Table_read.nd rfl (Or.inl rfl))) (fun _ _ _ _ _ => ptsp_nil) (fun _ _ _ _ _ => (pp_ifExp (ptp_cmp (op_eqP (K := K) hr.units) v_eq (pp_var (pv 4)) (pp_str z_4) (nomark _)) pp_int (pp_fn takes0 F_number_in (hr.mono (by decide)) rfl (pap_cons (pp_var (pv 4)) (pap_cons (pp_gint T.g_GREATEST_WORTH) pap_nil))))))
      (sp_cons (s_if (PW.pt (pwp_or (ptp_cmp (op_neP (K := K) hr.units) v_eq (pf_own (po_lc (own := [("worth", 5)]) rfl sc_Table_read.nd (ip_lst (pp_var (pv 3))) (blkOk_by (own := [("worth", 5)]) (N := ["cls", "text", "words", "worths", "word", "worth"]) (sc := defScope s_Table_read) (by decide +kernel)) (fun _ _ _ _ _ => (pgp_name (i := 5) sc_Table_read.nd rfl (Or.inl rfl))) (fun _ _ _ _ _ => ptsp_nil) (fun _ _ _ _ _ => (pp_callTy call_strF c_str (by rfl) T.n_str (by decide +kernel) (pap_cons (pp_var (pv 5)) pap_nil))))) (pp_var (pv 2)) (nomark _)) (pwp_or1 (ptp_not (ptp_val (pp_fn tk F_are_worths (hr.mono (by decide)) rfl (pap_cons (pp_var (pv 3)) pap_nil))))))) (sp_one (s_raise rfl tk X_BadText (hr.mono (by decide)) rfl (pp_var (pv 1)))) sp_nil)
      (sp_one (s_ret (pp_mkL tk F_Table___init__ (hr.mono (by decide)) (pp_var (pv 0)) (pap_cons (pp_var (pv 3)) pap_nil)))))))), fun ds M E0 Q0 hlen h => ?_⟩)
  rcases h with ⟨d, T, rfl, hcn, hty, hsub, k⟩ | ⟨l, rfl, hl, hc, k1, k2⟩
  · walk_at "pg"
    rw [hcn, hty]
    walk_at "pg"
    rw [if_pos hsub]
    exact k
  · obtain ⟨hs1, hs2⟩ := spl_len2 32 l []
    have hs1 : (splitL 32 l).length ≤ l.length + 1 := hs1
    have hs3 : ∀ p ∈ splitL 32 l, ∀ x ∈ p, x < 1114112 := fun p hp x hx => by
      rcases spl_mem 32 l [] p hp x hx with h | h
      · cases h
      · exact hc x h
    walk_at "pg"
    refine ⟨by rw [List.length_map]; omega, ?_⟩
    refine compP_map D.str (fun l => .int (wordV l)) rfl trivial (splitL 32 l) (fun p hp N1 hN => ?_) ?_
    · have hpl : p.length ≤ 0 + l.length := hs2 p hp
      walk_at "pg"
      unfold wordV at hN
      refine ite2 (fun h1 => ?_) (fun h1 => ?_)
      · rw [if_pos h1] at hN
        exact hN _ rfl
      · rw [if_neg h1] at hN
        walk_at "pg"
        refine ⟨p, 60, rfl, by omega, by omega, ?_⟩
        walk_at "pg"
        exact hN _ rfl
    · rw [show (splitL 32 l).map (fun l => D.int (wordV l)) = (readT l).map D.int by unfold readT; rw [List.map_map]; rfl]
      have hrl : (readT l).length = (splitL 32 l).length := by unfold readT; rw [List.length_map]
      have hrb : ∀ x ∈ readT l, 0 ≤ x ∧ x ≤ 60 := fun x hx => by
        obtain ⟨p, _, rfl⟩ := List.mem_map.mp hx
        exact wordV_le p
      unfold readOk at k1 k2
      generalize readT l = ws at *
      walk_at "pg"
      refine ⟨by rw [List.length_map]; omega, ?_⟩
      refine compP_map D.int (fun x => .str (numS x)) rfl trivial ws (fun x hx N1 hN => ?_) ?_
      · walk_at "pg"
        exact ⟨logI (hrb x hx).1 (by have := (hrb x hx).2; omega), hN _ rfl⟩
      · rw [show ws.map (fun x => D.str (numS x)) = (ws.map numS).map D.str by rw [List.map_map]; rfl]
        walk_at "pg"
        have hpl : ∀ ls : List (List Nat), (∀ p ∈ ls, ∀ x ∈ p, x < 1114112) → (ls.map D.str).all (plain 11) = true := fun ls h => by
          rw [List.all_map, List.all_eq_true]
          intro p hp
          show (p.all fun c => decide (c < 1114112)) = true
          rw [List.all_eq_true]
          exact fun c hc => decide_eq_true (h p hp c hc)
        have hp1 := hpl (ws.map numS) fun p hp x hx => by
          obtain ⟨y, hy, rfl⟩ := List.mem_map.mp hp
          have := numS_code (hrb y hy).1 x hx
          omega
        have hp2 := hpl (splitL 32 l) hs3
        refine ⟨⟨hp1, hp2⟩, ?_⟩
        rw [eqDs_strs]
        refine ite2 (fun h1 => ?_) (fun h1 => ?_)
        · rw [h1] at k2
          exact k2 rfl
        · have h1 : decide (ws.map numS = splitL 32 l) = true := by simpa using h1
          rw [h1, Bool.true_and] at k1 k2
          walk_at "pg"
          refine Or.inl ⟨_, rfl, ⟨fun _ => rfl, _, rfl⟩, fun xs e => ?_, ?_⟩
          · cases e
            exact ⟨by rw [List.length_map]; omega, ty_ints _⟩
          rw [show worthsB (.lst (ws.map D.int)) = goodW ws from rfl]
          walk_at "pg"
          refine ite2 (fun h2 => ?_) (fun h2 => ?_)
          · exact k2 (by simpa using h2)
          · have h2 : goodW ws = true := by simpa using h2
            walk_at "pg"
            intro x hx
            refine Or.inl ⟨x, _, rfl, updM_same, ⟨fun _ => rfl, _, rfl⟩, fun xs e => ?_, fun xs e hw => ?_, fun hw => ?_⟩
            · cases e
              exact ⟨by rw [List.length_map]; omega, ty_ints _⟩
            · cases e
              walk_at "pg"
              rw [delM_upd hx]
              exact k1 h2
            · rw [show worthsB (.lst (ws.map D.int)) = goodW ws from rfl, h2] at hw
              cases hw
end

section
variable {P : Program} {w : World} {K : PySem.W.Frag} {mg : Str → Option Value} {base : Heap}
theorem mul_b {a : Int} {m k : Nat} (h0 : 0 ≤ a) (h : a ≤ m) (hk : k < 10) : 0 ≤ a * (k : Int) ∧ a * (k : Int) ≤ (m : Int) * 9 := by
  obtain ⟨n, rfl⟩ := Int.eq_ofNat_of_zero_le h0
  have : n * k ≤ m * 9 := Nat.mul_le_mul (by omega) (by omega)
  constructor
  · exact mul_nn h0
  · have e : ((n * k : Nat) : Int) ≤ ((m * 9 : Nat) : Int) := by omega
    simpa using e
theorem good_map {f : Nat → Int} (h : ∀ k, k < 10 → 0 ≤ f k ∧ f k ≤ 60) : goodW ((List.range 10).map f) = true := by
  rw [good_iff]
  refine ⟨by rw [List.length_map, List.length_range], fun x hx => ?_⟩
  obtain ⟨k, hk, rfl⟩ := List.mem_map.mp hx
  exact h k (List.mem_range.mp hk)
def sp_law_worths : SpP := fun ds M E Q => ∃ (b : Addr), ds = [.ref b] ∧ BagP M b ∧ ∀ ws c, goodW ws = true → BagC c → Q (.lst (ws.map D.int)) (updM M b c)
abbrev s_law_worths : Stmt := top 28
theorem sc_law_worths : FnScope ["_law_bag_here", "_law_time", "_law_way", "_law_choice", "_law_change", "_law_worths_here", "_law_speed"] ["_law_bag_here"] (defScope s_law_worths) := ⟨rfl, rfl, rfl, by decide +kernel, rfl, by decide +kernel, by decide +kernel⟩
theorem ok_law_worths (Dd : Df K mg "_law_worths" s_law_worths ["_law_bag_here"]) (F_law_draw : FnP P w K mg base "_law_draw" 1 ["_law_bag_here", "_law_size"] false sp_draw) (T : Txt K mg) : FnP P w K mg base "_law_worths" 2 ["_law_bag_here"] false sp_law_worths := by
  refine Dd.okQ sc_law_worths (fun f cdv A outer s H E hr tk po => ⟨_, (sp_cons (s_set (i := 1) sc_law_worths.nd rfl (Or.inr rfl) (pp_fn tk F_law_draw (hr.mono (by decide)) rfl (pap_cons (pp_var (pv 0)) (pap_cons pp_int pap_nil))))
      (sp_cons (s_set (i := 2) sc_law_worths.nd rfl (Or.inr rfl) (pp_fn tk F_law_draw (hr.mono (by decide)) rfl (pap_cons (pp_var (pv 0)) (pap_cons pp_int pap_nil))))
      (sp_cons (s_set (i := 3) sc_law_worths.nd rfl (Or.inl rfl) (pp_fn tk F_law_draw (hr.mono (by decide)) rfl (pap_cons (pp_var (pv 0)) (pap_cons pp_int pap_nil))))
      (sp_cons (s_if (ptp_cmp (op_eqP (K := K) hr.units) v_eq (pp_var (pv 3)) pp_int (nomark _)) (sp_one (s_ret (pf_own (po_lc (own := [("_law_speed", 6)]) rfl sc_law_worths.nd (ip_range1 (by rfl) T.n_range (pap_cons pp_int pap_nil)) (blkOk_by (own := [("_law_speed", 6)]) (N := ["_law_bag_here", "_law_time", "_law_way", "_law_choice", "_law_change", "_law_worths_here", "_law_speed"]) (sc := defScope s_law_worths) (by decide +kernel)) (fun _ _ _ _ _ => (pgp_name (i := 6) sc_law_worths.nd rfl (Or.inl rfl))) (fun _ _ _ _ _ => ptsp_nil) (fun _ _ _ _ _ => (pp_callB (call_maxF rfl) c_max (by rfl) T.n_max (by decide +kernel) (pap_cons (pp_var (pv 1)) (pap_cons (pp_op op_mulF v_mul (pp_var (pv 2)) (pp_var (pv 6))) pap_nil)))))))) sp_nil)
      (sp_cons (s_if (ptp_cmp (op_eqP (K := K) hr.units) v_eq (pp_var (pv 3)) pp_int (nomark _)) (sp_one (s_ret (pf_own (po_lc (own := [("_law_speed", 6)]) rfl sc_law_worths.nd (ip_range1 (by rfl) T.n_range (pap_cons pp_int pap_nil)) (blkOk_by (own := [("_law_speed", 6)]) (N := ["_law_bag_here", "_law_time", "_law_way", "_law_choice", "_law_change", "_law_worths_here", "_law_speed"]) (sc := defScope s_law_worths) (by decide +kernel)) (fun _ _ _ _ _ => (pgp_name (i := 6) sc_law_worths.nd rfl (Or.inl rfl))) (fun _ _ _ _ _ => ptsp_nil) (fun _ _ _ _ _ => (pp_op op_addF v_add (pp_var (pv 1)) (pp_op op_mulF v_mul (pp_callB (call_minF rfl) c_min (by rfl) T.n_min (by decide +kernel) (pap_cons (pp_var (pv 2)) (pap_cons pp_int pap_nil))) (pp_var (pv 6))))))))) sp_nil)
      (sp_cons (s_if (ptp_cmp (op_eqP (K := K) hr.units) v_eq (pp_var (pv 3)) pp_int (nomark _)) (sp_cons (s_set (i := 4) sc_law_worths.nd rfl (Or.inl rfl) (pp_fn tk F_law_draw (hr.mono (by decide)) rfl (pap_cons (pp_var (pv 0)) (pap_cons pp_int pap_nil))))
      (sp_cons (s_setO (i := 5) sc_law_worths.nd rfl (Or.inl rfl) (po_lst pap_nil))
      (sp_cons (s_for po rfl (ip_range1 (by rfl) T.n_range (pap_cons pp_int pap_nil)) (pgp_name (i := 6) sc_law_worths.nd rfl (Or.inl rfl)) (sp_one (s_if (ptp_cmp op_ltF v_lt (pp_var (pv 6)) (pp_var (pv 4)) (nomark _)) (sp_one (s_expr (pp_lm PySem.F.slot_list_append PySem.F.type_list_append mt_appF lm_app (pb_slot (pv 5)) (pap_cons (pp_var (pv 1)) pap_nil)))) (sp_one (s_expr (pp_lm PySem.F.slot_list_append PySem.F.type_list_append mt_appF lm_app (pb_slot (pv 5)) (pap_cons (pp_op op_mulF v_mul (pp_var (pv 2)) (pp_var (pv 6))) pap_nil)))))))
      (sp_one (s_ret (pp_var (pv 5))))))) sp_nil)
      (sp_one (s_ret (pf_own (po_lc (own := [("_law_speed", 6)]) rfl sc_law_worths.nd (ip_range1 (by rfl) T.n_range (pap_cons pp_int pap_nil)) (blkOk_by (own := [("_law_speed", 6)]) (N := ["_law_bag_here", "_law_time", "_law_way", "_law_choice", "_law_change", "_law_worths_here", "_law_speed"]) (sc := defScope s_law_worths) (by decide +kernel)) (fun _ _ _ _ _ => (pgp_name (i := 6) sc_law_worths.nd rfl (Or.inl rfl))) (fun _ _ _ _ _ => ptsp_nil) (fun _ _ _ _ _ => (pp_fn takes0 F_law_draw (hr.mono (by decide)) rfl (pap_cons (pp_var (pv 0)) (pap_cons (pp_ix (pb_val (pf_own (po_lst (pap_cons pp_int (pap_cons pp_int pap_nil))))) (pp_fn takes0 F_law_draw (hr.mono (by decide)) rfl (pap_cons (pp_var (pv 0)) (pap_cons pp_int pap_nil))) (fun _ _ => rfl)) pap_nil)))))))))))))), fun ds M E0 Q0 hlen h => ?_⟩)
  obtain ⟨b, rfl, hB, k⟩ := h
  walk_at "pg"
  refine ⟨b, _, rfl, hB, by omega, by omega, fun t c ht0 ht1 hc => ?_⟩
  walk_at "pg"
  refine ⟨b, _, rfl, BagP.upd hc, by omega, by omega, fun v c1 hv0 hv1 hc1 => ?_⟩
  walk_at "pg"
  refine ⟨b, _, rfl, BagP.upd hc1, by omega, by omega, fun q c2 hq0 hq1 hc2 => ?_⟩
  walk_at "pg"
  refine ite2 (fun h1 => ?_) (fun h1 => ?_)
  · walk_at "pg"
    refine ⟨by decide, ?_⟩
    refine compP_map (fun s : Nat => .int (0 + (s : Int))) (fun s : Nat => .int (if v * (s : Int) > t then v * (s : Int) else t)) rfl trivial (List.range 10) (fun s hs N1 hN => ?_) ?_
    · have hs := List.mem_range.mp hs
      walk_at "pg"
      rw [Int.zero_add]
      exact hN _ rfl
    · rw [show (List.range 10).map (fun s : Nat => D.int (if v * (s : Int) > t then v * (s : Int) else t)) = ((List.range 10).map fun s : Nat => if v * (s : Int) > t then v * (s : Int) else t).map D.int by rw [List.map_map]; rfl]
      walk_at "pg"
      refine k _ c2 (good_map fun n hn => ?_) hc2
      have := mul_b (m := 5) hv0 (by omega) hn
      split <;> omega
  · walk_at "pg"
    refine ite2 (fun h2 => ?_) (fun h2 => ?_)
    · walk_at "pg"
      refine ⟨by decide, ?_⟩
      refine compP_map (fun s : Nat => .int (0 + (s : Int))) (fun s : Nat => .int (t + (if 5 < v then 5 else v) * (s : Int))) rfl trivial (List.range 10) (fun s hs N1 hN => ?_) ?_
      · have hs := List.mem_range.mp hs
        have hN := hN
        rw [if_neg (show ¬ 5 < v by omega)] at hN
        walk_at "pg"
        rw [Int.zero_add, if_neg (show ¬ 5 < v by omega)]
        walk_at "pg"
        exact hN _ rfl
      · rw [show (List.range 10).map (fun s : Nat => D.int (t + (if 5 < v then 5 else v) * (s : Int))) = ((List.range 10).map fun s : Nat => t + (if 5 < v then 5 else v) * (s : Int)).map D.int by rw [List.map_map]; rfl]
        walk_at "pg"
        refine k _ c2 (good_map fun n hn => ?_) hc2
        rw [if_neg (show ¬ 5 < v by omega)]
        have := mul_b (m := 5) hv0 (by omega) hn
        omega
    · walk_at "pg"
      refine ite2 (fun h3 => ?_) (fun h3 => ?_)
      · walk_at "pg"
        refine ⟨b, _, rfl, BagP.upd hc2, by omega, by omega, fun g c3 hg0 hg1 hc3 => ?_⟩
        walk_at "pg"
        refine forP_inv (fun n ρ M' => M' = updM M b c3 ∧ ∃ v6, ρ = [some (.fz (.ref b)), some (.fz (.int t)), some (.fz (.int v)), some (.fz (.int q)), some (.fz (.int g)), some (.own (.lst (((List.range n).map (dueF 2 t v g)).map D.int))), v6]) ⟨rfl, none, rfl⟩ (fun _ _ _ _ _ => trivial) ?_ ?_
        · rintro n x ρ M' N hx ⟨rfl, v6, rfl⟩ hN
          obtain ⟨hn, rfl⟩ := rangeD_at hx
          have hn : n < 10 := hn
          rw [Int.zero_add]
          have fin : ∀ y : Int, y = dueF 2 t v g n → N [some (.fz (.ref b)), some (.fz (.int t)), some (.fz (.int v)), some (.fz (.int q)), some (.fz (.int g)), some (.own (.lst (((List.range n).map (dueF 2 t v g)).map D.int ++ [.int y]))), some (.fz (.int (n : Int)))] (updM M b c3) := fun y e => by
            refine hN _ _ ⟨rfl, some (.fz (.int (n : Int))), ?_⟩
            rw [List.range_succ, List.map_append, List.map_append, e]
            rfl
          have hlen : (((List.range n).map (dueF 2 t v g)).map D.int).length < 16777216 := by
            rw [List.length_map, List.length_map, List.length_range]
            omega
          walk_at "pg"
          refine ite2 (fun h4 => ?_) (fun h4 => ?_)
          · walk_at "pg"
            first | refine ⟨hlen, fin _ ?_⟩ | refine fin _ ?_
            unfold dueF
            rw [if_neg (show ¬ (2 : Int) = 0 by decide), if_neg (show ¬ (2 : Int) = 1 by decide), if_pos h4]
          · walk_at "pg"
            first | refine ⟨hlen, fin _ ?_⟩ | refine fin _ ?_
            unfold dueF
            rw [if_neg (show ¬ (2 : Int) = 0 by decide), if_neg (show ¬ (2 : Int) = 1 by decide), if_neg h4]
        · rintro ρ M' ⟨rfl, v6, rfl⟩
          rw [rangeD_len]
          walk_at "pg"
          refine k _ c3 (good_map fun n hn => ?_) hc3
          have := mul_b (m := 5) hv0 (by omega) hn
          unfold dueF
          rw [if_neg (show ¬ (2 : Int) = 0 by decide), if_neg (show ¬ (2 : Int) = 1 by decide)]
          split <;> omega
      · walk_at "pg"
        refine ⟨by decide, ?_⟩
        refine compP_inv (fun i acc M' => ∃ ws c, acc = ws.map D.int ∧ ws.length = i ∧ (∀ x ∈ ws, 0 ≤ x ∧ x ≤ 60) ∧ BagC c ∧ M' = updM M b c) rfl ⟨[], c2, rfl, rfl, (fun _ h => by cases h), hc2, rfl⟩ (fun _ _ _ _ => trivial) ?_ ?_
        · rintro i x acc M' N1 N2 hx ⟨ws, c3, rfl, hl, hb, hc3, rfl⟩ hN1 hN2
          walk_at "pg"
          refine ⟨b, _, rfl, BagP.upd hc3, by omega, by omega, fun g c4 hg0 hg1 hc4 => ?_⟩
          obtain ⟨z, ez, hz0, hz1⟩ : ∃ z : Int, atI [D.int 5, D.int 61] g = some (.int z) ∧ 0 < z ∧ z ≤ 61 := by
            have : g = 0 ∨ g = 1 := by omega
            rcases this with rfl | rfl
            · exact ⟨5, rfl, by decide, by decide⟩
            · exact ⟨61, rfl, by decide, by decide⟩
          walk_at "pw"
          rw [ez]
          walk_at "pg"
          refine ⟨b, _, rfl, BagP.upd hc4, by omega, by omega, fun y c5 hy0 hy1 hc5 => ?_⟩
          walk_at "pg"
          refine hN1 _ _ _ rfl ⟨ws ++ [y], c5, by rw [List.map_append]; rfl, by rw [List.length_append, List.length_cons, List.length_nil]; omega, fun x hx => ?_, hc5, rfl⟩
          rcases List.mem_append.mp hx with h | h
          · exact hb x h
          · rw [List.mem_singleton] at h
            omega
        · rintro acc M' ⟨ws, c3, rfl, hl, hb, hc3, rfl⟩
          rw [rangeD_len] at hl
          walk_at "pg"
          exact k ws c3 (good_iff.mpr ⟨hl, hb⟩) hc3
end

section
variable {P : Program} {w : World} {K : PySem.W.Frag} {mg : Str → Option Value} {base : Heap}
def tabTxt (ws : List Int) : List Nat := TL.joinL [32] (ws.map numS)
theorem join_mem (s : List Nat) : ∀ (ws : List (List Nat)) (c : Nat), c ∈ TL.joinL s ws → c ∈ s ∨ ∃ l ∈ ws, c ∈ l
  | [], c, h => by simp [TL.joinL] at h
  | [a], c, h => .inr ⟨a, by simp, by simpa [TL.joinL] using h⟩
  | a :: b :: r, c, h => by
    have e : TL.joinL s (a :: b :: r) = a ++ (s ++ TL.joinL s (b :: r)) := rfl
    rw [e] at h
    rcases List.mem_append.mp h with h | h
    · exact .inr ⟨a, by simp, h⟩
    · rcases List.mem_append.mp h with h | h
      · exact .inl h
      · rcases join_mem s (b :: r) c h with h | ⟨l, hl, h⟩
        · exact .inl h
        · exact .inr ⟨l, List.mem_cons_of_mem _ hl, h⟩
theorem word_num {x : Int} (h : 0 ≤ x) (h2 : x ≤ 60) : wordV (numS x) = x := by
  obtain ⟨n, rfl⟩ := Int.eq_ofNat_of_zero_le h
  rw [numS_nat]
  have : ∀ n : Fin 61, wordV (TL.numL n) = ((n : Nat) : Int) := by decide +kernel
  exact this ⟨n, by omega⟩
theorem read_back {ws : List Int} (h : goodW ws = true) : readT (tabTxt ws) = ws ∧ readOk (tabTxt ws) = true ∧ (tabTxt ws).length ≤ 1000 ∧ ∀ c ∈ tabTxt ws, c < 1114112 := by
  obtain ⟨hl, hb⟩ := good_iff.mp h
  have e : splitL 32 (tabTxt ws) = ws.map numS := by
    unfold splitL tabTxt
    refine TL.spl_join (fun z => ?_) fun p hp hc => ?_
    · have : ws = [] := List.map_eq_nil_iff.mp z
      rw [this] at hl
      cases hl
    · obtain ⟨x, hx, rfl⟩ := List.mem_map.mp hp
      have := numS_code (hb x hx).1 _ hc
      omega
  have e2 : readT (tabTxt ws) = ws := by
    unfold readT
    rw [e, List.map_map]
    conv => rhs; rw [← List.map_id ws]
    exact List.map_congr_left fun x hx => word_num (hb x hx).1 (hb x hx).2
  refine ⟨e2, ?_, ?_, fun c hc => ?_⟩
  · unfold readOk
    rw [e2, e, h, decide_eq_true rfl]
    rfl
  · have h1 := join_len [32] (ws.map numS)
    have hs := sum_le (fun x => (numS x).length) 4 ws fun x hx => numS_len (hb x hx).1 (by have := (hb x hx).2; omega)
    rw [List.map_map, List.length_map] at h1
    have e3 : ((fun x : List Nat => x.length) ∘ numS) = fun x => (numS x).length := rfl
    rw [e3] at h1
    simp only [List.length_cons, List.length_nil] at h1
    show (TL.joinL [32] (ws.map numS)).length ≤ 1000
    omega
  · rcases join_mem [32] _ c hc with h | ⟨l, hl, h⟩
    · rw [List.mem_singleton] at h
      omega
    · obtain ⟨x, hx, rfl⟩ := List.mem_map.mp hl
      have := numS_code (hb x hx).1 _ h
      omega
theorem range_getD {ws : List Int} (h : ws.length = 10) : (List.range 10).map (fun s => ws.getD s 0) = ws := by
  refine List.ext_getElem? fun i => ?_
  rw [List.getElem?_map]
  by_cases hi : i < 10
  · rw [List.getElem?_range hi, List.getElem?_eq_getElem (by omega), Option.map_some, List.getD_eq_getElem?_getD, List.getElem?_eq_getElem (by omega)]
    rfl
  · rw [List.getElem?_eq_none (by rw [List.length_range]; omega), List.getElem?_eq_none (by omega)]
    rfl
end

section
variable {P : Program} {w : World} {K : PySem.W.Frag} {mg : Str → Option Value} {base : Heap}
def tripB : D → Bool
  | .str l => decide (l.length ≤ 2000) && l.all digB
  | _ => false
theorem trip_str (l : List Nat) : tripB (.str l) = (decide (l.length ≤ 2000) && l.all digB) := rfl
theorem ten_in2 (c : Nat) : decide (c ∈ [48, 49, 50, 51, 52, 53, 54, 55, 56, 57]) = digB c := dec_ten c
def sp_is_trip : SpP := fun ds M E Q => ∃ d, ds = [d] ∧ TyOk d ∧ (∀ l, d = .str l → l.length ≤ 100000) ∧ Q (.bl (tripB d)) M
abbrev s_is_trip : Stmt := top 14
theorem sc_is_trip : FnScope ["value", "digit"] ["value"] (defScope s_is_trip) := ⟨rfl, rfl, rfl, by decide +kernel, rfl, by decide +kernel, by decide +kernel⟩
theorem ok_is_trip (Dd : Df K mg "is_trip" s_is_trip ["value"])  (T : Txt K mg) : FnP P w K mg base "is_trip" 1 ["value"] false sp_is_trip := by
  refine Dd.okQ sc_is_trip (fun f cdv A outer s H E hr tk po => ⟨_, (sp_cons (s_if (PW.pt (pwp_or (ptp_not (ptp_val (pp_callB call_isiP c_isi (by rfl) T.n_isinstance (by decide +kernel) (pap_cons (pp_var (pv 0)) (pap_cons (pp_ty (T := "str") T.n_str) pap_nil))))) (pwp_or1 (ptp_cmp op_gtF v_gt (pp_callB call_lenP c_len (by rfl) T.n_len (by decide +kernel) (pap_cons (pp_var (pv 0)) pap_nil)) (pp_gint T.g_MOST_TICKS) (nomark _))))) (sp_one (s_ret pp_bl)) sp_nil)
      (sp_one (s_ret (pp_callB (call_allF rfl) c_all (by rfl) T.n_all (by decide +kernel) (pap_cons (pf_own (po_lc (own := [("digit", 1)]) rfl sc_is_trip.nd (ip_str (pp_var (pv 0))) (blkOk_by (own := [("digit", 1)]) (N := ["value", "digit"]) (sc := defScope s_is_trip) (by decide +kernel)) (fun _ _ _ _ _ => (pgp_name (i := 1) sc_is_trip.nd rfl (Or.inl rfl))) (fun _ _ _ _ _ => ptsp_nil) (fun _ _ _ _ _ => (pp_cmp (op_inP (K := K) (hu65 hr)) v_in (pp_var (pv 1)) (pp_gstr T.g_DIGITS z_8) (by rfl))))) pap_nil))))), fun ds M E0 Q0 hlen h => ?_⟩)
  obtain ⟨d, rfl, ⟨hcn, T, hT⟩, hx, k⟩ := h
  cases d with
  | str l =>
    have hl := hx l rfl
    walk_at "pg"
    refine ite2 (fun h1 => ?_) (fun h1 => ?_)
    · rw [trip_str, decide_eq_false (by omega)] at k
      exact k
    · refine ⟨by rw [List.length_map]; omega, compP_map (fun c => .str [c]) (fun c => .bl (digB c)) rfl trivial l (fun c hc N1 hN => ?_) ?_⟩
      · walk_at "pg"
        rw [ten_in2]
        exact hN _ rfl
      · walk_at "pg"
        rw [trip_str, decide_eq_true (by omega)] at k
        rw [List.all_map]
        exact k
  | _ => first | (cases hT; done) | (cases hT; walk_at "pg"; exact k)
end

section
variable {P : Program} {w : World} {K : PySem.W.Frag} {mg : Str → Option Value} {base : Heap}
def sp_check_trip : SpP := fun ds M E Q => ∃ d, ds = [d] ∧ TyOk d ∧ (∀ l, d = .str l → l.length ≤ 100000) ∧ (tripB d = true → Q .non M) ∧ (tripB d = false → E "BadTrip" d M)
abbrev s_check_trip : Stmt := top 15
theorem sc_check_trip : FnScope ["trip"] ["trip"] (defScope s_check_trip) := ⟨rfl, rfl, rfl, by decide +kernel, rfl, by decide +kernel, by decide +kernel⟩
theorem ok_check_trip (Dd : Df K mg "check_trip" s_check_trip ["trip"]) (F_is_trip : FnP P w K mg base "is_trip" 1 ["value"] false sp_is_trip) (X_BadTrip : XFn P w K mg base "BadTrip") (T : Txt K mg) : FnP P w K mg base "check_trip" 3 ["trip"] false sp_check_trip := by
  refine Dd.okQ sc_check_trip (fun f cdv A outer s H E hr tk po => ⟨_, (sp_one (s_if (ptp_not (ptp_val (pp_fn tk F_is_trip (hr.mono (by decide)) rfl (pap_cons (pp_var (pv 0)) pap_nil)))) (sp_one (s_raise rfl tk X_BadTrip (hr.mono (by decide)) rfl (pp_var (pv 0)))) sp_nil)), fun ds M E0 Q0 hlen h => ?_⟩)
  obtain ⟨d, rfl, ht, hl, k1, k2⟩ := h
  walk_at "pg"
  refine ⟨d, rfl, ht, hl, ?_⟩
  walk_at "pg"
  refine ite2 (fun h1 => ?_) (fun h1 => ?_)
  · exact k2 (by simpa using h1)
  · exact k1 (by simpa using h1)
theorem int_dig {c : Nat} (h : digB c = true) : PySem.intText? (sL [c]) = some ((c - 48 : Nat) : Int) := by
  have hd : NumText.AllDigits [c] := fun x hx => by rw [List.mem_singleton.mp hx]; exact digB_iff.mp h
  have e := intText_digits (x := sL [c]) hd (by simp) (by rw [len_sL, List.length_cons, List.length_nil]; decide)
  rw [e, show NumText.digitsVal [c] = c - 48 by simp [NumText.digitsVal]]
def sumW (ws : List Int) (l : List Nat) : Int := (l.map fun c => ws.getD (c - 48) 0).sum
theorem at_dig {ws : List Int} {c : Nat} (hw : ws.length = 10) (h : digB c = true) : (ws.map D.int)[c - 48]? = some (.int (ws.getD (c - 48) 0)) := by
  have h1 := digB_iff.mp h
  have hlt : c - 48 < ws.length := by omega
  rw [List.getElem?_map, List.getElem?_eq_getElem hlt, List.getD_eq_getElem?_getD, List.getElem?_eq_getElem hlt]
  rfl
end

section
variable {P : Program} {w : World} {K : PySem.W.Frag} {mg : Str → Option Value} {base : Heap}
def sp_count_of : SpP := fun ds M E Q => ∃ ws l, ds = [tabD ws, .str l] ∧ ws.length = 10 ∧ l.length ≤ 2000 ∧ l.all digB = true ∧ Q (.int (sumW ws l)) M
def sp_count_ofX : SpP := fun ds M E Q => sp_count_of ds M E Q ∨ ∃ ws d, ds = [tabD ws, d] ∧ TyOk d ∧ (∀ l, d = .str l → l.length ≤ 100000) ∧ tripB d = false ∧ E "BadTrip" d M
abbrev s_count_of : Stmt := top 21
theorem sc_count_of : FnScope ["table", "trip", "worths", "digit"] ["table", "trip"] (defScope s_count_of) := ⟨rfl, rfl, rfl, by decide +kernel, rfl, by decide +kernel, by decide +kernel⟩
theorem ok_count_of (Dd : Df K mg "count_of" s_count_of ["table", "trip"]) (F_check_trip : FnP P w K mg base "check_trip" 3 ["trip"] false sp_check_trip) (F_Table_worths : MtF P w K mg base (KdP K mg "Table" "worths") 1 1 true sp_Table_worths) (T : Txt K mg) : FnP P w K mg base "count_of" 4 ["table", "trip"] false sp_count_ofX := by
  refine Dd.okQ sc_count_of (fun f cdv A outer s H E hr tk po => ⟨_, (sp_cons (s_expr (pp_fn tk F_check_trip (hr.mono (by decide)) rfl (pap_cons (pp_var (pv 1)) pap_nil)))
      (sp_cons (s_set (i := 2) sc_count_of.nd rfl (Or.inr rfl) (pf_own (po_prp F_Table_worths (hr.mono (by decide)) (pp_var (pv 0)))))
      (sp_one (s_ret (pp_callB (call_sumF rfl) c_sum (by rfl) T.n_sum (by decide +kernel) (pap_cons (pf_own (po_lc (own := [("digit", 3)]) rfl sc_count_of.nd (ip_str (pp_var (pv 1))) (blkOk_by (own := [("digit", 3)]) (N := ["table", "trip", "worths", "digit"]) (sc := defScope s_count_of) (by decide +kernel)) (fun _ _ _ _ _ => (pgp_name (i := 3) sc_count_of.nd rfl (Or.inl rfl))) (fun _ _ _ _ _ => ptsp_nil) (fun _ _ _ _ _ => (pp_ix (pb_slot (pv 2)) (pp_callTy call_intF' c_int (by rfl) T.n_int (by decide +kernel) (pap_cons (pp_var (pv 3)) pap_nil)) (fun _ _ => rfl))))) pap_nil)))))), fun ds M E0 Q0 hlen h => ?_⟩)
  rcases h with h | ⟨ws, d, rfl, ht, hl, hd, k⟩
  rotate_left
  · unfold tabD
    walk_at "pg"
    refine ⟨d, rfl, ht, hl, fun z => ?_, fun _ => ?_⟩
    · rw [hd] at z
      cases z
    · walk_at "pg"
      exact k
  obtain ⟨ws, l, rfl, hw, hl, hd, k⟩ := h
  unfold tabD
  walk_at "pg"
  refine ⟨.str l, rfl, ⟨fun _ => rfl, _, rfl⟩, fun l' e => by cases e; omega, fun _ => ?_, fun z => ?_⟩
  · walk_at "pg"
    refine ⟨ws, rfl, by omega, ?_⟩
    walk_at "pg"
    refine ⟨by rw [List.length_map]; omega, compP_map (fun c => .str [c]) (fun c => .int (ws.getD (c - 48) 0)) rfl trivial l (fun c hc N1 hN => ?_) ?_⟩
    · have hc := List.all_eq_true.mp hd c hc
      walk_at "pg"
      rw [int_dig hc]
      walk_at "pg"
      rw [at_dig hw hc]
      walk_at "pg"
      exact hN _ rfl
    · rw [show l.map (fun c => D.int (ws.getD (c - 48) 0)) = (l.map fun c => ws.getD (c - 48) 0).map D.int by rw [List.map_map]; rfl]
      walk_at "pg"
      exact k
  · rw [trip_str, hd, decide_eq_true hl] at z
    cases z
def sp_law_sum : SpP := fun ds M E Q => ∃ ws l, ds = [.lst (ws.map D.int), .str l] ∧ ws.length = 10 ∧ l.length ≤ 2000 ∧ l.all digB = true ∧ Q (.int (sumW ws l)) M
abbrev s_law_sum : Stmt := top 29
theorem sc_law_sum : FnScope ["_law_worths_here", "_law_trip", "_law_digit"] ["_law_worths_here", "_law_trip"] (defScope s_law_sum) := ⟨rfl, rfl, rfl, by decide +kernel, rfl, by decide +kernel, by decide +kernel⟩
theorem ok_law_sum (Dd : Df K mg "_law_sum" s_law_sum ["_law_worths_here", "_law_trip"])  (T : Txt K mg) : FnP P w K mg base "_law_sum" 1 ["_law_worths_here", "_law_trip"] false sp_law_sum := by
  refine Dd.okQ sc_law_sum (fun f cdv A outer s H E hr tk po => ⟨_, (sp_one (s_ret (pp_callB (call_sumF rfl) c_sum (by rfl) T.n_sum (by decide +kernel) (pap_cons (pf_own (po_lc (own := [("_law_digit", 2)]) rfl sc_law_sum.nd (ip_str (pp_var (pv 1))) (blkOk_by (own := [("_law_digit", 2)]) (N := ["_law_worths_here", "_law_trip", "_law_digit"]) (sc := defScope s_law_sum) (by decide +kernel)) (fun _ _ _ _ _ => (pgp_name (i := 2) sc_law_sum.nd rfl (Or.inl rfl))) (fun _ _ _ _ _ => ptsp_nil) (fun _ _ _ _ _ => (pp_ix (pb_slot (pv 0)) (pp_callTy call_intF' c_int (by rfl) T.n_int (by decide +kernel) (pap_cons (pp_var (pv 2)) pap_nil)) (fun _ _ => rfl))))) pap_nil)))), fun ds M E0 Q0 hlen h => ?_⟩)
  obtain ⟨ws, l, rfl, hw, hl, hd, k⟩ := h
  walk_at "pg"
  refine ⟨by rw [List.length_map]; omega, compP_map (fun c => .str [c]) (fun c => .int (ws.getD (c - 48) 0)) rfl trivial l (fun c hc N1 hN => ?_) ?_⟩
  · have hc := List.all_eq_true.mp hd c hc
    walk_at "pg"
    rw [int_dig hc]
    walk_at "pg"
    rw [at_dig hw hc]
    walk_at "pg"
    exact hN _ rfl
  · rw [show l.map (fun c => D.int (ws.getD (c - 48) 0)) = (l.map fun c => ws.getD (c - 48) 0).map D.int by rw [List.map_map]; rfl]
    walk_at "pg"
    exact k
end

section
variable {P : Program} {w : World} {K : PySem.W.Frag} {mg : Str → Option Value} {base : Heap}
theorem min_dig (t : Int) (c : Nat) (h0 : 0 ≤ t) (h9 : t ≤ 9) (hc : digB c = true) : ∃ x : Nat, (if ((c - 48 : Nat) : Int) < t then ((c - 48 : Nat) : Int) else t) = (x : Int) ∧ x ≤ 9 := by
  have := digB_iff.mp hc
  split
  · exact ⟨c - 48, rfl, by omega⟩
  · exact ⟨t.toNat, by omega, by omega⟩
theorem numL_dig {x : Nat} (h : x ≤ 9) : ∃ c, TL.numL x = [c] ∧ digB c = true := by
  have : ∀ x : Fin 10, ∃ c, TL.numL x = [c] ∧ digB c = true := fun x => ⟨48 + x, by revert x; decide +kernel, by revert x; decide +kernel⟩
  exact this ⟨x, by omega⟩
def sp_law_drawn_trip : SpP := fun ds M E Q => ∃ (b : Addr) (most top : Int), ds = [.ref b, .int most, .int top] ∧ BagP M b ∧ 0 ≤ most ∧ most ≤ 2000 ∧ 0 ≤ top ∧ top ≤ 9 ∧ ∀ l c, (l.length : Int) ≤ most → l.all digB = true → BagC c → Q (.str l) (updM M b c)
abbrev s_law_drawn_trip : Stmt := top 27
theorem sc_law_drawn_trip : FnScope ["_law_bag_here", "_law_most", "_law_top", "_law_digits", "_law_trip", "_law_k"] ["_law_bag_here", "_law_most", "_law_top"] (defScope s_law_drawn_trip) := ⟨rfl, rfl, rfl, by decide +kernel, rfl, by decide +kernel, by decide +kernel⟩
theorem ok_law_drawn_trip (Dd : Df K mg "_law_drawn_trip" s_law_drawn_trip ["_law_bag_here", "_law_most", "_law_top"]) (F_law_draw : FnP P w K mg base "_law_draw" 1 ["_law_bag_here", "_law_size"] false sp_draw) (T : Txt K mg) : FnP P w K mg base "_law_drawn_trip" 2 ["_law_bag_here", "_law_most", "_law_top"] false sp_law_drawn_trip := by
  refine Dd.okQ sc_law_drawn_trip (fun f cdv A outer s H E hr tk po => ⟨_, (sp_cons (s_set (i := 3) sc_law_drawn_trip.nd rfl (Or.inl rfl) (pp_ix (pb_val (pf_own (po_lst (pap_cons (pp_str z_8) (pap_cons (pp_str z_9) (pap_cons (pp_str z_10) (pap_cons (pp_str z_11) (pap_cons (pp_str z_12) pap_nil)))))))) (pp_fn tk F_law_draw (hr.mono (by decide)) rfl (pap_cons (pp_var (pv 0)) (pap_cons pp_int pap_nil))) (fun _ _ => rfl)))
      (sp_cons (s_set (i := 4) sc_law_drawn_trip.nd rfl (Or.inl rfl) (pp_str z_7))
      (sp_cons (s_for po rfl (ip_range1 (by rfl) T.n_range (pap_cons (pp_fn tk F_law_draw (hr.mono (by decide)) rfl (pap_cons (pp_var (pv 0)) (pap_cons (pp_op op_addF v_add (pp_var (pv 1)) pp_int) pap_nil))) pap_nil)) (pgp_name (i := 5) sc_law_drawn_trip.nd rfl (Or.inl rfl)) (sp_one (s_set (i := 4) sc_law_drawn_trip.nd rfl (Or.inl rfl) (pp_op op_addF v_add (pp_var (pv 4)) (pp_callTy call_strF c_str (by rfl) T.n_str (by decide +kernel) (pap_cons (pp_callB (call_minF rfl) c_min (by rfl) T.n_min (by decide +kernel) (pap_cons (pp_var (pv 2)) (pap_cons (pp_callTy call_intF' c_int (by rfl) T.n_int (by decide +kernel) (pap_cons (pp_ix (pb_slot (pv 3)) (pp_fn tk F_law_draw (hr.mono (by decide)) rfl (pap_cons (pp_var (pv 0)) (pap_cons (pp_callB call_lenP c_len (by rfl) T.n_len (by decide +kernel) (pap_cons (pp_var (pv 3)) pap_nil)) pap_nil))) (fun _ _ => rfl)) pap_nil)) pap_nil))) pap_nil))))))
      (sp_one (s_ret (pp_var (pv 4))))))), fun ds M E0 Q0 hlen h => ?_⟩)
  obtain ⟨b, most, top, rfl, hB, hm0, hm1, ht0, ht1, k⟩ := h
  walk_at "pg"
  refine ⟨b, _, rfl, hB, by omega, by omega, fun r c hr0 hr1 hc => ?_⟩
  obtain ⟨z, ez, hz0, hz1, hz2⟩ : ∃ z : List Nat, atI [D.str [48, 49, 50, 51, 52, 53, 54, 55, 56, 57], D.str [48, 48, 53], D.str [48, 49, 50, 51], D.str [48, 57], D.str [51, 52, 53, 54]] r = some (.str z) ∧ 0 < z.length ∧ z.length ≤ 10 ∧ z.all digB = true := by
    have : r = 0 ∨ r = 1 ∨ r = 2 ∨ r = 3 ∨ r = 4 := by omega
    rcases this with rfl | rfl | rfl | rfl | rfl
    · exact ⟨_, rfl, by decide, by decide, rfl⟩
    · exact ⟨_, rfl, by decide, by decide, rfl⟩
    · exact ⟨_, rfl, by decide, by decide, rfl⟩
    · exact ⟨_, rfl, by decide, by decide, rfl⟩
    · exact ⟨_, rfl, by decide, by decide, rfl⟩
  walk_at "pw"
  rw [ez]
  walk_at "pg"
  refine ⟨b, _, rfl, BagP.upd hc, by omega, by omega, fun n c1 hn0 hn1 hc1 => ?_⟩
  walk_at "pg"
  refine forP_inv (fun i ρ M' => ∃ c l v5, BagC c ∧ M' = updM M b c ∧ ρ = [some (.fz (.ref b)), some (.fz (.int most)), some (.fz (.int top)), some (.fz (.str z)), some (.fz (.str l)), v5] ∧ l.length = i ∧ l.all digB = true) ⟨c1, [], none, hc1, rfl, rfl, rfl, rfl⟩ (fun _ _ _ _ _ => trivial) ?_ ?_
  · rintro i x ρ M' N hx ⟨c2, l, v5, hc2, rfl, rfl, hl, hd⟩ hN
    have hi : i < n.toNat := by
      have := (List.getElem?_eq_some_iff.mp hx).1
      simp only [rangeD, List.length_map, List.length_range] at this
      omega
    walk_at "pg"
    refine ⟨b, _, rfl, BagP.upd hc2, by omega, by omega, fun q c3 hq0 hq1 hc3 => ?_⟩
    have hlt : q.toNat < z.length := by omega
    have hzd := List.all_eq_true.mp hz2 _ (List.getElem_mem hlt)
    walk_at "pg"
    rw [at_nn hq0, List.getElem?_eq_getElem hlt]
    walk_at "pg"
    rw [int_dig hzd]
    walk_at "pg"
    obtain ⟨y, ey, hy⟩ := min_dig top _ ht0 ht1 hzd
    obtain ⟨cc, ec, hcc⟩ := numL_dig hy
    rw [ey, numS_nat, ec]
    refine ⟨lg (by omega), ?_⟩
    walk_at "pg"
    refine hN _ _ ⟨c3, _, _, hc3, rfl, rfl, by rw [List.length_append, List.length_cons, List.length_nil]; omega, by rw [List.all_append, hd]; simp [hcc]⟩
  · rintro ρ M' ⟨c2, l, v5, hc2, rfl, rfl, hl, hd⟩
    simp only [rangeD, List.length_map, List.length_range] at hl
    walk_at "pg"
    exact k l c2 (by omega) hd hc2
end

section
variable {P : Program} {w : World} {K : PySem.W.Frag} {mg : Str → Option Value} {base : Heap}
theorem perm_erase {α : Type} : ∀ {l : List α} {j : Nat} (h : j < l.length), (l[j] :: l.eraseIdx j).Perm l
  | a :: l, 0, _ => List.Perm.refl _
  | a :: l, j + 1, h => ((List.Perm.swap a (l[j]'(by simpa using h)) (l.eraseIdx j))).trans (List.Perm.cons a (perm_erase (l := l) (j := j) (by simpa using h)))
theorem perm_step {α : Type} {ys zs xs : List α} {j : Nat} (h : j < zs.length) (p : (ys ++ zs).Perm xs) : ((ys ++ [zs[j]]) ++ zs.eraseIdx j).Perm xs := by
  refine List.Perm.trans ?_ p
  rw [List.append_assoc]
  exact List.Perm.append_left ys (perm_erase h)
abbrev s_law_mixed : Stmt := top 26
theorem sc_law_mixed : FnScope ["_law_bag_here", "_law_items", "_law_left", "_law_found", "_law_k"] ["_law_bag_here", "_law_items"] (defScope s_law_mixed) := ⟨rfl, rfl, rfl, by decide +kernel, rfl, by decide +kernel, by decide +kernel⟩
theorem ok_law_mixed (Dd : Df K mg "_law_mixed" s_law_mixed ["_law_bag_here", "_law_items"]) (F_law_draw : FnP P w K mg base "_law_draw" 1 ["_law_bag_here", "_law_size"] false sp_draw) (T : Txt K mg) : FnP P w K mg base "_law_mixed" 2 ["_law_bag_here", "_law_items"] true sp_mixed := by
  refine Dd.okQ sc_law_mixed (fun f cdv A outer s H E hr tk po => ⟨_, (sp_cons (s_setO (i := 2) sc_law_mixed.nd rfl (Or.inl rfl) (po_callTy call_listP c_list (by rfl) T.n_list (by decide +kernel) (pap_cons (pp_var (pv 1)) pap_nil)))
      (sp_cons (s_setO (i := 3) sc_law_mixed.nd rfl (Or.inl rfl) (po_lst pap_nil))
      (sp_cons (s_for po rfl (ip_range1 (by rfl) T.n_range (pap_cons (pp_callB call_lenP c_len (by rfl) T.n_len (by decide +kernel) (pap_cons (pp_var (pv 1)) pap_nil)) pap_nil)) (pgp_name (i := 4) sc_law_mixed.nd rfl (Or.inl rfl)) (sp_one (s_expr (pp_lm PySem.F.slot_list_append PySem.F.type_list_append mt_appF lm_app (pb_slot (pv 3)) (pap_cons (pp_lm PySem.F.slot_list_pop PySem.F.type_list_pop mt_popF lm_pop (pb_slot (pv 2)) (pap_cons (pp_fn tk F_law_draw (hr.mono (by decide)) rfl (pap_cons (pp_var (pv 0)) (pap_cons (pp_callB1 call_lenP c_len (by rfl) T.n_len (by decide +kernel) (pb_slot (pv 2))) pap_nil))) pap_nil)) pap_nil)))))
      (sp_one (s_retO (pp_move (pv 3))))))), fun ds M E0 Q0 hlen h => ?_⟩)
  obtain ⟨b, xs, rfl, ⟨c0, hb, hB⟩, hlen, k⟩ := h
  walk_at "pg"
  refine forP_inv (fun i ρ M' => ∃ c ys zs v4, BagC c ∧ M' = updM M b c ∧ ρ = [some (.fz (.ref b)), some (.fz (.lst xs)), some (.own (.lst zs)), some (.own (.lst ys)), v4] ∧ (ys ++ zs).Perm xs ∧ ys.length = i) ⟨c0, [], xs, none, hB, updM_id hb, rfl, List.Perm.refl _, rfl⟩ (fun _ _ _ _ _ => trivial) ?_ ?_
  · rintro i x ρ M' N hx ⟨c, ys, zs, v4, hc, rfl, rfl, hp, hl⟩ hN
    have hpl := hp.length_eq
    rw [List.length_append] at hpl
    have hi : i < xs.length := by
      have := (List.getElem?_eq_some_iff.mp hx).1
      simp only [rangeD, List.length_map, List.length_range] at this
      omega
    walk_at "pg"
    refine ⟨b, _, rfl, BagP.upd hc, by omega, by omega, fun r c1 hr0 hr1 hc1 => ?_⟩
    have hj : r.toNat < zs.length := by omega
    walk_at "pg"
    rw [List.getElem?_eq_getElem hj]
    walk_at "pg"
    refine hN _ _ ⟨c1, _, _, _, hc1, rfl, rfl, perm_step hj hp, by rw [List.length_append, List.length_cons, List.length_nil]; omega⟩
  · rintro ρ M' ⟨c, ys, zs, v4, hc, rfl, rfl, hp, hl⟩
    have hpl := hp.length_eq
    rw [List.length_append] at hpl
    simp only [rangeD, List.length_map, List.length_range] at hl
    have hz : zs = [] := List.eq_nil_of_length_eq_zero (by omega)
    subst hz
    rw [List.append_nil] at hp
    walk_at "pg"
    exact k ys c hp hc
end

section
variable {P : Program} {w : World} {K : PySem.W.Frag} {mg : Str → Option Value} {base : Heap}
abbrev s_law : Stmt := top 33
theorem sc_law : FnScope ["_law_script", "_law_bag_here", "_law_lots", "_law_given", "_law_tables", "_law_turn", "_law_other", "_law_wrong", "_law_worths_here"] ["_law_script"] (defScope s_law) := ⟨rfl, rfl, rfl, by decide +kernel, rfl, by decide +kernel, by decide +kernel⟩
def lam_law_0 : LamRec := lamAt "law" (exI (exI (stX (stB (stB s_law 8) 0)) 0) 1)
theorem lsc_law_0 : NdefX.NScope ["_law_todo", "_law_tables"] ["_law_todo"] ["_law_tables"] lam_law_0.scope := NdefX.nscope_by (by decide +kernel)
theorem lfr_law_0 : ∀ y ∈ lam_law_0.scope.names, y.2 = .free → (defScope s_law).names.lookup y.1 = some .cell ∨ (defScope s_law).names.lookup y.1 = some .free := NdefX.ndef_free (fr := ["_law_tables"]) (by decide +kernel)
def lam_law_1 : LamRec := lamAt "law" (exI (exI (stX (stB (stB s_law 9) 0)) 0) 1)
theorem lsc_law_1 : NdefX.NScope ["_law_todo", "_law_tables"] ["_law_todo"] ["_law_tables"] lam_law_1.scope := NdefX.nscope_by (by decide +kernel)
theorem lfr_law_1 : ∀ y ∈ lam_law_1.scope.names, y.2 = .free → (defScope s_law).names.lookup y.1 = some .cell ∨ (defScope s_law).names.lookup y.1 = some .free := NdefX.ndef_free (fr := ["_law_tables"]) (by decide +kernel)
def sp_lam_law_0 : SpP := fun ds M E Q => ∃ d ws r, ds = [d, .lst (tabD ws :: r)] ∧ TyOk d ∧ ws.length = 10 ∧ betB 0 9 d = false ∧ E "BadSpeed" d M
theorem okl_law_0 (F_Table___getitem__ : MtF P w K mg base (KdG K mg "Table") 4 2 false sp_Table___getitem__) (T : Txt K mg) : LamP P w K mg base 6 lam_law_0 1 ["_law_tables"] sp_lam_law_0 := by
  refine lamP_of lsc_law_0 (fun _ _ _ _ us hl => match us, hl with | [_], _ => rfl) (fun f cl c A outer s H E hr tk po => ⟨_, (pp_subO tk F_Table___getitem__ (hr.mono (by decide)) (pp_ix (pb_slot (pv 1)) pp_int (fun _ _ => rfl)) (pp_var (pv 0)) (fun _ _ => rfl)), fun ds M E0 Q0 hlen h => ?_⟩)
  obtain ⟨d, ws, r, rfl, ht, hl, hb, k⟩ := h
  unfold tabD
  walk_at "pg"
  refine ⟨ws, d, rfl, hl, ht, fun _ => ?_, fun i e h0 h9 => ?_⟩
  · walk_at "pg"
    exact k
  · subst e
    have : (decide (0 ≤ i) && decide (i ≤ 9)) = false := hb
    rw [decide_eq_true h0, decide_eq_true h9] at this
    cases this
def sp_lam_law_1 : SpP := fun ds M E Q => ∃ d ws r, ds = [d, .lst (tabD ws :: r)] ∧ TyOk d ∧ (∀ l, d = .str l → l.length ≤ 100000) ∧ tripB d = false ∧ E "BadTrip" d M
theorem okl_law_1 (F_count_of : FnP P w K mg base "count_of" 4 ["table", "trip"] false sp_count_ofX) (T : Txt K mg) : LamP P w K mg base 5 lam_law_1 1 ["_law_tables"] sp_lam_law_1 := by
  refine lamP_of lsc_law_1 (fun _ _ _ _ us hl => match us, hl with | [_], _ => rfl) (fun f cl c A outer s H E hr tk po => ⟨_, (pp_fn tk F_count_of (hr.mono (by decide)) rfl (pap_cons (pp_ix (pb_slot (pv 1)) pp_int (fun _ _ => rfl)) (pap_cons (pp_var (pv 0)) pap_nil))), fun ds M E0 Q0 hlen h => ?_⟩)
  obtain ⟨d, ws, r, rfl, ht, hl, hb, k⟩ := h
  unfold tabD
  walk_at "pg"
  refine .inr ⟨ws, d, rfl, ht, hl, hb, ?_⟩
  walk_at "pg"
  exact k
def lt_law_refusal : LTab := (ltC lam_law_0 ["_law_tables"] 1 sp_lam_law_0 (ltC lam_law_1 ["_law_tables"] 1 sp_lam_law_1 lt0))
def jt_law : JTab := (jtC lam_law_0 ["_law_tables"] [4] (jtC lam_law_1 ["_law_tables"] [4] jt0))
theorem jtok_law : JTok (defScope s_law) ["_law_script", "_law_bag_here", "_law_lots", "_law_given", "_law_tables", "_law_turn", "_law_other", "_law_wrong", "_law_worths_here"] jt_law := (jtokC (capOk_by (by decide +kernel) rfl) (jtokC (capOk_by (by decide +kernel) rfl) jtok0))
def refS : D := .tup [.str [115, 112, 101, 101, 100], .bl true, .bl true]
def refT : D := .tup [.str [116, 114, 105, 112], .bl true, .bl true]
def sp_law_refusal (CT : Cap → Prop) : SpP := fun ds M E Q => ∃ L f C cs d sp, ds = [.clo L f C cs, d] ∧ lt_law_refusal L C.fr 1 sp ∧ CT C ∧ cs.length = C.fr.length ∧ plain 12 d = true ∧ ∀ (E' : XC) (Q' : D → PHp → Prop), (∀ M', Q refS M' → E' "BadSpeed" d M') → (∀ M', Q refT M' → E' "BadTrip" d M') → sp (d :: cs) M E' Q'
abbrev s_law_refusal : Stmt := top 30
theorem sc_law_refusal : FnScope ["_law_deed", "_law_thing", "_law_found", "e"] ["_law_deed", "_law_thing"] (defScope s_law_refusal) := ⟨rfl, rfl, rfl, by decide +kernel, rfl, by decide +kernel, by decide +kernel⟩
theorem ok_law_refusal (Dd : Df K mg "_law_refusal" s_law_refusal ["_law_deed", "_law_thing"]) (L_law_0 : LamP P w K mg base 6 lam_law_0 1 ["_law_tables"] sp_lam_law_0) (L_law_1 : LamP P w K mg base 5 lam_law_1 1 ["_law_tables"] sp_lam_law_1) (X_BadSpeed : XFn P w K mg base "BadSpeed") (X_BadTrip : XFn P w K mg base "BadTrip") (T : Txt K mg) : FnPC P w K mg base "_law_refusal" 7 ["_law_deed", "_law_thing"] false sp_law_refusal := by
  obtain ⟨XCm, XM, hxb⟩ := T.xb
  obtain ⟨XC_BadSpeed, _, _, XH_BadSpeed, _, XF_BadSpeed, XN_BadSpeed, _⟩ := id X_BadSpeed.ex
  have XL_BadSpeed : ∀ cc : Str, cc ∈ (["BadTrip", "BadText", "BadSpeed", "BadWorths"] : List Str) → ∀ CC, mg cc = some (.ref CC) → PySem.W.exmOne K (.ref CC) (.ref XC_BadSpeed) = some (decide (cc = ("BadSpeed" : Str))) := fun cc h CC e => T.xm cc h "BadSpeed" (by decide) CC XC_BadSpeed e XH_BadSpeed
  have XE_BadSpeed := (hxb "BadSpeed" (by decide) XC_BadSpeed XH_BadSpeed).1
  have XK_BadSpeed := (hxb "BadSpeed" (by decide) XC_BadSpeed XH_BadSpeed).2
  obtain ⟨XC_BadTrip, _, _, XH_BadTrip, _, XF_BadTrip, XN_BadTrip, _⟩ := id X_BadTrip.ex
  have XL_BadTrip : ∀ cc : Str, cc ∈ (["BadTrip", "BadText", "BadSpeed", "BadWorths"] : List Str) → ∀ CC, mg cc = some (.ref CC) → PySem.W.exmOne K (.ref CC) (.ref XC_BadTrip) = some (decide (cc = ("BadTrip" : Str))) := fun cc h CC e => T.xm cc h "BadTrip" (by decide) CC XC_BadTrip e XH_BadTrip
  have XE_BadTrip := (hxb "BadTrip" (by decide) XC_BadTrip XH_BadTrip).1
  have XK_BadTrip := (hxb "BadTrip" (by decide) XC_BadTrip XH_BadTrip).2
  refine Dd.okC sc_law_refusal (fun CT f cdv A outer s H E hct hr tk po => ⟨_, (sp_cons (s_set (i := 2) sc_law_refusal.nd rfl (Or.inl rfl) pp_non)
      (sp_cons (s_tryN rfl rfl sc_law_refusal.nd tk (fun _ _ _ tk po => (sp_one (s_set (i := 2) sc_law_refusal.nd rfl (Or.inl rfl) (pp_clo (T := lt_law_refusal) (k := 6) tk (ltokC L_law_0 (by decide) (ltokC L_law_1 (by decide) ltok0)) hct rfl (hr.mono (by decide)) (pp_var (pv 0)) (pap_cons (pp_var (pv 1)) pap_nil))))) (.cons (i := 3) rfl rfl rfl XH_BadSpeed XL_BadSpeed (fun _ _ _ _ hz hf => (sp_one (s_ret (pp_tup (pap_cons (pp_str z_13) (pap_cons (pp_cmp (op_eqP (K := K) hr.units) v_eq (pp_xgiven XF_BadSpeed XN_BadSpeed hz hf (pp_var (pv 3))) (pp_var (pv 1)) (nomark _)) (pap_cons (pp_and (pp_xis hz hf rfl T.n_isinstance rfl XM XE_BadSpeed XK_BadSpeed (pp_var (pv 3))) (pp_one (pp_cmp op_isNP v_isN (pp_var (pv 2)) pp_non (nomark _)))) pap_nil))))))) (.cons (i := 3) rfl rfl rfl XH_BadTrip XL_BadTrip (fun _ _ _ _ hz hf => (sp_one (s_ret (pp_tup (pap_cons (pp_str z_14) (pap_cons (pp_cmp (op_eqP (K := K) hr.units) v_eq (pp_xgiven XF_BadTrip XN_BadTrip hz hf (pp_var (pv 3))) (pp_var (pv 1)) (nomark _)) (pap_cons (pp_and (pp_xis hz hf rfl T.n_isinstance rfl XM XE_BadTrip XK_BadTrip (pp_var (pv 3))) (pp_one (pp_cmp op_isNP v_isN (pp_var (pv 2)) pp_non (nomark _)))) pap_nil))))))) .nil (by decide)) (by decide)))
      (sp_one (s_ret pp_non)))), fun ds M E0 Q0 hlen h => ?_⟩)
  obtain ⟨L, lf, C, cs, d, sp, rfl, hT, hCT, hcs, hp, k⟩ := h
  walk_at "pg"
  refine ⟨1, sp, hT, hCT, rfl, hcs, k _ _ (fun M' q => ?_) (fun M' q => ?_)⟩
  · walk_at "pg"
    refine ⟨by decide, fun a dd => ?_⟩
    rw [cn_plain _ hp]
    refine eqR_same hp ?_
    walk_at "pg"
    exact q
  · walk_at "pg"
    refine ⟨by decide, ?_⟩
    rw [if_neg (by decide)]
    intro a dd
    rw [cn_plain _ hp]
    refine eqR_same hp ?_
    walk_at "pg"
    exact q
end
section
variable {P : Program} {w : World} {K : PySem.W.Frag} {mg : Str → Option Value} {base : Heap}
def sp_law_changed : SpP := fun ds M E Q => ∃ (b : Addr) (ws : List Int), ds = [.ref b, .lst (ws.map D.int)] ∧ BagP M b ∧ goodW ws = true ∧ ∀ ws' c, goodW ws' = true → BagC c → Q (.lst (ws'.map D.int)) (updM M b c)
abbrev s_law_changed : Stmt := top 32
theorem sc_law_changed : FnScope ["_law_bag_here", "_law_worths_here", "_law_found", "_law_speed"] ["_law_bag_here", "_law_worths_here"] (defScope s_law_changed) := ⟨rfl, rfl, rfl, by decide +kernel, rfl, by decide +kernel, by decide +kernel⟩
theorem ok_law_changed (Dd : Df K mg "_law_changed" s_law_changed ["_law_bag_here", "_law_worths_here"]) (F_law_draw : FnP P w K mg base "_law_draw" 1 ["_law_bag_here", "_law_size"] false sp_draw) (T : Txt K mg) : FnP P w K mg base "_law_changed" 2 ["_law_bag_here", "_law_worths_here"] false sp_law_changed := by
  refine Dd.okQ sc_law_changed (fun f cdv A outer s H E hr tk po => ⟨_, (sp_cons (s_setO (i := 2) sc_law_changed.nd rfl (Or.inl rfl) (po_callTy call_listP c_list (by rfl) T.n_list (by decide +kernel) (pap_cons (pp_var (pv 1)) pap_nil)))
      (sp_cons (s_set (i := 3) sc_law_changed.nd rfl (Or.inl rfl) (pp_fn tk F_law_draw (hr.mono (by decide)) rfl (pap_cons (pp_var (pv 0)) (pap_cons pp_int pap_nil))))
      (sp_cons (s_put (pp_op op_modF v_mod (pp_op op_addF v_add (pp_ix (pb_slot (pv 2)) (pp_var (pv 3)) (fun _ _ => rfl)) pp_int) pp_int) (pg_sub (pb_slot (pv 2)) (pp_var (pv 3)) set_F))
      (sp_one (s_ret (pp_var (pv 2))))))), fun ds M E0 Q0 hlen h => ?_⟩)
  obtain ⟨b, ws, rfl, hB, hg, k⟩ := h
  obtain ⟨hl, hb⟩ := good_iff.mp hg
  walk_at "pg"
  refine ⟨b, _, rfl, hB, by omega, by omega, fun r c h0 h1 hc => ?_⟩
  obtain ⟨n, rfl⟩ := Int.eq_ofNat_of_zero_le h0
  have hlt : n < ws.length := by omega
  walk_at "pg"
  rw [List.getElem?_map, List.getElem?_eq_getElem hlt]
  walk_at "pg"
  refine ⟨n, by rw [ix_nn (by omega) (by rw [List.length_map]; omega)]; rfl, ?_⟩
  rw [← List.map_set]
  refine k _ c (good_iff.mpr ⟨by rw [List.length_set]; exact hl, fun x hx => ?_⟩) hc
  rcases List.mem_or_eq_of_mem_set hx with h | rfl
  · exact hb x h
  · have := hb _ (List.getElem_mem hlt)
    omega
theorem bet_spd {s : Nat} (h : s < 10) : betB 0 9 (.int (0 + (s : Int))) = true := by
  show (decide (0 ≤ 0 + (s : Int)) && decide (0 + (s : Int) ≤ 9)) = true
  rw [decide_eq_true (by omega), decide_eq_true (by omega)]
  rfl
def sp_law_table_right : SpP := fun ds M E Q => ∃ (b : Addr) (ws : List Int), ds = [.ref b, tabD ws, .lst (ws.map D.int)] ∧ BagP M b ∧ goodW ws = true ∧ ∀ c, BagC c → Q (.bl true) (updM M b c)
abbrev s_law_table_right : Stmt := top 31
theorem sc_law_table_right : FnScope ["_law_bag_here", "_law_table", "_law_worths_here", "_law_question", "_law_shown", "_law_trip", "_law_text", "_law_speed", "_law_worth"] ["_law_bag_here", "_law_table", "_law_worths_here"] (defScope s_law_table_right) := ⟨rfl, rfl, rfl, by decide +kernel, rfl, by decide +kernel, by decide +kernel⟩
theorem ok_law_table_right (Dd : Df K mg "_law_table_right" s_law_table_right ["_law_bag_here", "_law_table", "_law_worths_here"]) (F_Table_read : MtF P w K mg base (KdC K mg "Table" "read") 6 2 false sp_Table_read) (F_Table_worths : MtF P w K mg base (KdP K mg "Table" "worths") 1 1 true sp_Table_worths) (F_Table___getitem__ : MtF P w K mg base (KdG K mg "Table") 4 2 false sp_Table___getitem__) (F_Table_same : MtF P w K mg base (KdM K mg "Table" "same") 1 2 false sp_Table_same) (F_Table_text : MtF P w K mg base (KdM K mg "Table" "text") 1 1 false sp_Table_text) (F_count_of : FnP P w K mg base "count_of" 4 ["table", "trip"] false sp_count_ofX) (F_law_mixed : FnP P w K mg base "_law_mixed" 2 ["_law_bag_here", "_law_items"] true sp_mixed) (F_law_drawn_trip : FnP P w K mg base "_law_drawn_trip" 2 ["_law_bag_here", "_law_most", "_law_top"] false sp_law_drawn_trip) (F_law_sum : FnP P w K mg base "_law_sum" 1 ["_law_worths_here", "_law_trip"] false sp_law_sum) (T : Txt K mg) : FnP P w K mg base "_law_table_right" 7 ["_law_bag_here", "_law_table", "_law_worths_here"] false sp_law_table_right := by
  refine Dd.okQ sc_law_table_right (fun f cdv A outer s H E hr tk po => ⟨_, (sp_cons (s_for po rfl (ip_lst (pf_own (po_fn tk F_law_mixed (hr.mono (by decide)) rfl (pap_cons (pp_var (pv 0)) (pap_cons (pf_own (po_lst (pap_cons pp_int (pap_cons pp_int (pap_cons pp_int (pap_cons pp_int (pap_cons pp_int pap_nil))))))) pap_nil))))) (pgp_name (i := 3) sc_law_table_right.nd rfl (Or.inl rfl)) (sp_cons (s_if (PW.pt (pwp_and (ptp_cmp (op_eqP (K := K) hr.units) v_eq (pp_var (pv 3)) pp_int (nomark _)) (pwp_and1 (ptp_cmp (op_neP (K := K) hr.units) v_eq (pf_own (po_lc (own := [("_law_speed", 7)]) rfl sc_law_table_right.nd (ip_range1 (by rfl) T.n_range (pap_cons pp_int pap_nil)) (blkOk_by (own := [("_law_speed", 7)]) (N := ["_law_bag_here", "_law_table", "_law_worths_here", "_law_question", "_law_shown", "_law_trip", "_law_text", "_law_speed", "_law_worth"]) (sc := defScope s_law_table_right) (by decide +kernel)) (fun _ _ _ _ _ => (pgp_name (i := 7) sc_law_table_right.nd rfl (Or.inl rfl))) (fun _ _ _ _ _ => ptsp_nil) (fun _ _ _ _ _ => (pp_subO takes0 F_Table___getitem__ (hr.mono (by decide)) (pp_var (pv 1)) (pp_var (pv 7)) (fun _ _ => rfl))))) (pp_var (pv 2)) (nomark _))))) (sp_one (s_ret pp_bl)) sp_nil)
      (sp_cons (s_if (ptp_cmp (op_eqP (K := K) hr.units) v_eq (pp_var (pv 3)) pp_int (nomark _)) (sp_cons (s_setO (i := 4) sc_law_table_right.nd rfl (Or.inl rfl) (po_prp F_Table_worths (hr.mono (by decide)) (pp_var (pv 1))))
      (sp_cons (s_if (ptp_cmpB (op_neP (K := K) hr.units) v_eq (pb_slot (pv 4)) (pp_var (pv 2)) (nomark _)) (sp_one (s_ret pp_bl)) sp_nil)
      (sp_one (s_expr (pp_lm0 PySem.F.slot_list_clear PySem.F.type_list_clear mt_clearF lm_clear (pb_slot (pv 4))))))) sp_nil)
      (sp_cons (s_if (ptp_cmp (op_eqP (K := K) hr.units) v_eq (pp_var (pv 3)) pp_int (nomark _)) (sp_cons (s_set (i := 5) sc_law_table_right.nd rfl (Or.inl rfl) (pp_fn tk F_law_drawn_trip (hr.mono (by decide)) rfl (pap_cons (pp_var (pv 0)) (pap_cons pp_int (pap_cons pp_int pap_nil)))))
      (sp_one (s_if (ptp_cmp (op_neP (K := K) hr.units) v_eq (pp_fn tk F_count_of (hr.mono (by decide)) rfl (pap_cons (pp_var (pv 1)) (pap_cons (pp_var (pv 5)) pap_nil))) (pp_fn tk F_law_sum (hr.mono (by decide)) rfl (pap_cons (pp_var (pv 2)) (pap_cons (pp_var (pv 5)) pap_nil))) (nomark _)) (sp_one (s_ret pp_bl)) sp_nil))) sp_nil)
      (sp_one (s_if (ptp_cmp (op_eqP (K := K) hr.units) v_eq (pp_var (pv 3)) pp_int (nomark _)) (sp_cons (s_set (i := 6) sc_law_table_right.nd rfl (Or.inl rfl) (pp_join (pp_str z_5) (pf_own (po_lc (own := [("_law_worth", 8)]) rfl sc_law_table_right.nd (ip_lst (pp_var (pv 2))) (blkOk_by (own := [("_law_worth", 8)]) (N := ["_law_bag_here", "_law_table", "_law_worths_here", "_law_question", "_law_shown", "_law_trip", "_law_text", "_law_speed", "_law_worth"]) (sc := defScope s_law_table_right) (by decide +kernel)) (fun _ _ _ _ _ => (pgp_name (i := 8) sc_law_table_right.nd rfl (Or.inl rfl))) (fun _ _ _ _ _ => ptsp_nil) (fun _ _ _ _ _ => (pp_callTy call_strF c_str (by rfl) T.n_str (by decide +kernel) (pap_cons (pp_var (pv 8)) pap_nil)))))))
      (sp_one (s_if (PW.pt (pwp_or (ptp_cmp (op_neP (K := K) hr.units) v_eq (pp_mth0 tk F_Table_text (hr.mono (by decide)) (pp_var (pv 1))) (pp_var (pv 6)) (nomark _)) (pwp_or1 (ptp_not (ptp_val (pp_mth tk F_Table_same (hr.mono (by decide)) (pp_cls tk F_Table_read T.k_Table (hr.mono (by decide)) rfl (pap_cons (pp_var (pv 6)) pap_nil)) (pap_cons (pp_var (pv 1)) pap_nil))))))) (sp_one (s_ret pp_bl)) sp_nil))) sp_nil))))))
      (sp_one (s_ret pp_bl))), fun ds M E0 Q0 hlen h => ?_⟩)
  obtain ⟨b, ws, rfl, ⟨c0, hb0, hc0⟩, hg, k⟩ := h
  obtain ⟨hl, hb⟩ := good_iff.mp hg
  obtain ⟨rb1, rb2, rb3, rb4⟩ := read_back hg
  unfold tabD
  walk_at "pg"
  refine ⟨b, _, rfl, ⟨c0, hb0, hc0⟩, by simp, fun ys c1 hys hc1 => ?_⟩
  walk_at "pg"
  refine forP_inv (fun i ρ M' => (∃ c', BagC c' ∧ M' = updM M b c') ∧ ∃ v3 v4 v5 v6, ρ = [some (.fz (.ref b)), some (.fz (.obj "Table" [("row", .tup (ws.map D.int))])), some (.fz (.lst (ws.map D.int))), v3, v4, v5, v6, none, none]) ⟨⟨c1, hc1, rfl⟩, _, _, _, _, rfl⟩ (fun _ _ _ _ _ => trivial) ?_ ?_
  · rintro i x ρ M' N hx ⟨⟨c2, hc2, rfl⟩, v3, v4, v5, v6, rfl⟩ hN
    have hx := hys.subset (List.mem_of_getElem? hx)
    simp only [List.mem_cons, List.not_mem_nil, or_false] at hx
    have hx : x = .int 0 ∨ x = .int 1 ∨ x = .int 2 ∨ x = .int 3 := by
      rcases hx with h | h | h | h | h
      · exact .inl h
      · exact .inr (.inl h)
      · exact .inr (.inr (.inl h))
      · exact .inr (.inr (.inr h))
      · exact .inr (.inl h)
    rcases hx with rfl | rfl | rfl | rfl
    · walk_at "pg"
      refine ⟨by decide, ?_⟩
      refine compP_map (fun s : Nat => .int (0 + (s : Int))) (fun s : Nat => .int (ws.getD s 0)) rfl trivial (List.range 10) (fun s hs N1 hN1 => ?_) ?_
      · have hs := List.mem_range.mp hs
        walk_at "pg"
        refine ⟨ws, _, rfl, hl, ⟨fun _ => rfl, _, rfl⟩, fun z => ?_, fun i e h0 h9 x hx => ?_⟩
        · rw [bet_spd hs] at z
          cases z
        · cases e
          walk_at "pg"
          have e2 : (0 + (s : Int)).toNat = s := by omega
          rw [e2] at hx
          rw [List.getD_eq_getElem?_getD, hx] at hN1
          exact hN1 _ rfl
      · rw [show (List.range 10).map (fun s : Nat => D.int (ws.getD s 0)) = ((List.range 10).map fun s => ws.getD s 0).map D.int by rw [List.map_map]; rfl, range_getD hl]
        walk_at "pg"
        refine ⟨plain_ints _, ?_⟩
        rw [eqDs_ints, decide_eq_true rfl]
        walk_at "pg"
        exact hN _ _ ⟨⟨c2, hc2, rfl⟩, _, _, _, _, rfl⟩
    · walk_at "pg"
      refine ⟨ws, rfl, by omega, ?_⟩
      walk_at "pg"
      refine ⟨plain_ints _, ?_⟩
      rw [eqDs_ints, decide_eq_true rfl]
      walk_at "pg"
      exact hN _ _ ⟨⟨c2, hc2, rfl⟩, _, _, _, _, rfl⟩
    · walk_at "pg"
      refine ⟨b, 40, 9, rfl, BagP.upd hc2, by omega, by omega, by omega, by omega, fun l c hl2 hd hc => ?_⟩
      have hl2 : l.length ≤ 2000 := by omega
      walk_at "pg"
      refine .inl ⟨ws, l, rfl, hl, hl2, hd, ?_⟩
      walk_at "pg"
      refine ⟨ws, l, rfl, hl, hl2, hd, ?_⟩
      walk_at "pg"
      exact hN _ _ ⟨⟨c, hc, rfl⟩, _, _, _, _, rfl⟩
    · walk_at "pg"
      refine ⟨by rw [List.length_map]; omega, ?_⟩
      refine compP_map D.int (fun x => .str (numS x)) rfl trivial ws (fun x hx N1 hN => ?_) ?_
      · walk_at "pg"
        exact ⟨logI (hb x hx).1 (by have := (hb x hx).2; omega), hN _ rfl⟩
      rw [show ws.map (fun x => D.str (numS x)) = (ws.map numS).map D.str by rw [List.map_map]; rfl]
      walk_at "pg"
      refine ⟨?_, ?_⟩
      · have hs := sum_le (fun x => (numS x).length) 4 ws fun x hx => numS_len (hb x hx).1 (by have := (hb x hx).2; omega)
        rw [List.map_map, List.length_map]
        have e : ((fun x : List Nat => x.length) ∘ numS) = fun x => (numS x).length := rfl
        rw [e]
        omega
      rw [show TL.joinL [32] (ws.map numS) = tabTxt ws from rfl]
      refine ⟨rfl, ws, rfl, by omega, hb, ?_⟩
      rw [show TL.joinL [32] (ws.map numS) = tabTxt ws from rfl]
      walk_at "pg"
      refine .inr ⟨_, rfl, by omega, rb4, fun _ => ?_, fun z => ?_⟩
      rotate_left
      · rw [rb2] at z
        cases z
      rw [rb1]
      unfold tabD
      walk_at "pg"
      refine ⟨rfl, ws, ws, rfl, ?_⟩
      walk_at "pg"
      exact hN _ _ ⟨⟨c2, hc2, rfl⟩, _, _, _, _, rfl⟩
  · rintro ρ M' ⟨⟨c2, hc2, rfl⟩, v3, v4, v5, v6, rfl⟩
    walk_at "pg"
    exact k c2 hc2
end

section
theorem pyM_refl {d : D} (h : pairOK d d = true) : PyData.eqv (toPyM d) (toPyM d) = true := by
  unfold pairOK at h
  split at h
  · rfl
  · rw [Bool.and_eq_true] at h
    rw [toPyM_plain h.1]
    exact eqD_refl 12 d h.1
theorem eqMs_refl : ∀ {xs : List D}, pairsOK xs xs = true → eqMs xs xs = true
  | [], _ => rfl
  | a :: xs, h => by
    rw [pairsOK, Bool.and_eq_true] at h
    rw [eqMs_c, pyM_refl h.1, eqMs_refl h.2]
    rfl
end

section
variable {P : Program} {w : World} {K : PySem.W.Frag} {mg : Str → Option Value} {base : Heap}
theorem wrongS_all {y : D} (h : y ∈ [D.int (-1), D.int 10, D.non, D.str [53], D.bl true, D.lst [D.int 5], D.int (10 ^ 29)]) : TyOk y ∧ betB 0 9 y = false ∧ plain 12 y = true := by
  simp only [List.mem_cons, List.not_mem_nil, or_false] at h
  rcases h with rfl | rfl | rfl | rfl | rfl | rfl | rfl <;> exact ⟨⟨fun _ => rfl, _, rfl⟩, rfl, rfl⟩
theorem repL_sing (c n : Nat) : repL [c] n = List.replicate n c := by
  unfold repL
  induction n with
  | zero => rfl
  | succ n ih => rw [List.replicate_succ, List.flatten_cons, ih, List.replicate_succ]; rfl
theorem wrongT_all {y : D} (h : y ∈ [D.str [53, 97], D.non, D.int 5, D.lst [D.str [53]], D.str (repL [53] 2001)]) : TyOk y ∧ (∀ l, y = .str l → l.length ≤ 100000) ∧ tripB y = false ∧ plain 12 y = true := by
  simp only [List.mem_cons, List.not_mem_nil, or_false] at h
  rcases h with rfl | rfl | rfl | rfl | rfl
  · exact ⟨⟨fun _ => rfl, _, rfl⟩, (fun l e => by cases e; decide), rfl, rfl⟩
  · exact ⟨⟨fun _ => rfl, _, rfl⟩, (fun l e => by cases e), rfl, rfl⟩
  · exact ⟨⟨fun _ => rfl, _, rfl⟩, (fun l e => by cases e), rfl, rfl⟩
  · exact ⟨⟨fun _ => rfl, _, rfl⟩, (fun l e => by cases e), rfl, rfl⟩
  · rw [repL_sing]
    refine ⟨⟨fun _ => rfl, _, rfl⟩, fun l e => ?_, ?_, ?_⟩
    · cases e
      rw [List.length_replicate]
      decide
    · rw [trip_str, List.length_replicate, decide_eq_false (by decide)]
      rfl
    · refine List.all_eq_true.mpr fun c hc => ?_
      rw [(List.mem_replicate.mp hc).2]
      rfl
theorem ok_law {c_law : Addr} (Dd : DfL K mg "law" s_law ["_law_script"] c_law) {P_law : Addr} (F_Table___init__ : MtF P w K mg base (KdI K mg "Table") 4 2 false sp_Table_initR) (F_Table_same : MtF P w K mg base (KdM K mg "Table" "same") 1 2 false sp_Table_same) (F_count_of : FnP P w K mg base "count_of" 4 ["table", "trip"] false sp_count_ofX) (F_law_bag : FnP P w K mg base "_law_bag" 1 ["_law_script"] true sp_bag) (F_law_pick : FnP P w K mg base "_law_pick" 2 ["_law_bag_here", "_law_items"] false sp_pick) (F_law_worths : FnP P w K mg base "_law_worths" 2 ["_law_bag_here"] false sp_law_worths) (F_law_refusal : FnPC P w K mg base "_law_refusal" 7 ["_law_deed", "_law_thing"] false sp_law_refusal) (F_law_table_right : FnP P w K mg base "_law_table_right" 7 ["_law_bag_here", "_law_table", "_law_worths_here"] false sp_law_table_right) (F_law_changed : FnP P w K mg base "_law_changed" 2 ["_law_bag_here", "_law_worths_here"] false sp_law_changed) (TB : LamX.TabB base mg c_law P_law) (T : Txt K mg) : FnP P w K mg base "law" 8 ["_law_script"] false (spLawT [(P_law, lam_law_0.qual)]) := by
  refine Dd.okQ sc_law (fun f A outer s H E hr tk po => ⟨_, (sp_cons (s_set (i := 1) sc_law.nd rfl (Or.inl rfl) (pf_cell (po_fn tk F_law_bag (hr.mono (by decide)) rfl (pap_cons (pp_var (pv 0)) pap_nil))))
      (sp_cons (s_set (i := 2) sc_law.nd rfl (Or.inl rfl) (pf_own (po_lst (pap_cons (pp_fn tk F_law_worths (hr.mono (by decide)) rfl (pap_cons (pp_var (pv 1)) pap_nil)) (pap_cons (pp_fn tk F_law_worths (hr.mono (by decide)) rfl (pap_cons (pp_var (pv 1)) pap_nil)) pap_nil)))))
      (sp_cons (s_setLc (i := 3) (own := [("_law_worths_here", 8)]) rfl sc_law.nd rfl rfl (sw_true rfl rfl rfl (by decide +kernel)) (ip_lst (pp_var (pv 2))) (blkOk_by (own := [("_law_worths_here", 8)]) (N := ["_law_script", "_law_bag_here", "_law_lots", "_law_given", "_law_tables", "_law_turn", "_law_other", "_law_wrong", "_law_worths_here"]) (sc := defScope s_law) (by decide +kernel)) (fun _ _ _ _ _ => (pgp_name (i := 8) sc_law.nd rfl (Or.inl rfl))) (fun _ _ _ _ _ => ptsp_nil) (fun _ _ _ _ _ => (pf_cell (po_callTy call_listP c_list (by rfl) T.n_list (by decide +kernel) (pap_cons (pp_var (pv 8)) pap_nil)))))
      (sp_cons (s_set (i := 4) sc_law.nd rfl (Or.inr rfl) (pf_own (po_lc (own := [("_law_worths_here", 8)]) rfl sc_law.nd (ip_lst (pp_var (pv 3))) (blkOk_by (own := [("_law_worths_here", 8)]) (N := ["_law_script", "_law_bag_here", "_law_lots", "_law_given", "_law_tables", "_law_turn", "_law_other", "_law_wrong", "_law_worths_here"]) (sc := defScope s_law) (by decide +kernel)) (fun _ _ _ _ _ => (pgp_name (i := 8) sc_law.nd rfl (Or.inl rfl))) (fun _ _ _ _ _ => ptsp_nil) (fun _ _ _ _ _ => (pp_mk takes0 F_Table___init__ (hr.mono (by decide)) rfl (pap_cons (pp_var (pv 8)) pap_nil))))))
      (sp_cons (s_if (ptp_cmp (op_neP (K := K) hr.units) v_eqC (pp_var (pv 3)) (pp_var (pv 2)) (nomark _)) (sp_one (s_ret pp_bl)) sp_nil)
      (sp_cons (s_expr (pp_lm PySem.F.slot_list_append PySem.F.type_list_append mt_appF lm_app (pb_val (pp_ix (pb_slot (pv 3)) pp_int (fun _ _ => rfl))) (pap_cons pp_int pap_nil)))
      (sp_cons (s_put pp_int (pg_sub (pb_val (pp_ix (pb_slot (pv 3)) pp_int (fun _ _ => rfl))) pp_int set_F))
      (sp_cons (s_for po rfl (ip_lst (pf_own (po_lst (pap_cons pp_int (pap_cons pp_int (pap_cons pp_int pap_nil)))))) (pgp_name (i := 5) sc_law.nd rfl (Or.inl rfl)) (sp_cons (s_if (ptp_not (ptp_val (pp_fn tk F_law_table_right (hr.mono (by decide)) rfl (pap_cons (pp_var (pv 1)) (pap_cons (pp_ix (pb_slot (pv 4)) (pp_var (pv 5)) (fun _ _ => rfl)) (pap_cons (pp_ix (pb_slot (pv 2)) (pp_var (pv 5)) (fun _ _ => rfl)) pap_nil)))))) (sp_one (s_ret pp_bl)) sp_nil)
      (sp_cons (s_set (i := 6) sc_law.nd rfl (Or.inl rfl) (pp_fn tk F_law_pick (hr.mono (by decide)) rfl (pap_cons (pp_var (pv 1)) (pap_cons (pf_own (po_lst (pap_cons (pp_ix (pb_slot (pv 2)) pp_int (fun _ _ => rfl)) (pap_cons (pp_ix (pb_slot (pv 2)) pp_int (fun _ _ => rfl)) (pap_cons (pp_fn tk F_law_changed (hr.mono (by decide)) rfl (pap_cons (pp_var (pv 1)) (pap_cons (pp_ix (pb_slot (pv 2)) (pp_var (pv 5)) (fun _ _ => rfl)) pap_nil))) pap_nil))))) pap_nil))))
      (sp_one (s_if (ptp_cmp (op_neP (K := K) hr.units) v_eq (pp_mth tk F_Table_same (hr.mono (by decide)) (pp_ix (pb_slot (pv 4)) (pp_var (pv 5)) (fun _ _ => rfl)) (pap_cons (pp_mk tk F_Table___init__ (hr.mono (by decide)) rfl (pap_cons (pf_own (po_callTy call_listP c_list (by rfl) T.n_list (by decide +kernel) (pap_cons (pp_var (pv 6)) pap_nil))) pap_nil)) pap_nil)) (pp_cmp (op_eqP (K := K) hr.units) v_eq (pp_var (pv 6)) (pp_ix (pb_slot (pv 2)) (pp_var (pv 5)) (fun _ _ => rfl)) (nomark _)) (nomark _)) (sp_one (s_ret pp_bl)) sp_nil)))))
      (sp_cons (s_for po rfl (ip_lst (pf_own (po_lst (pap_cons (pp_neg pp_int) (pap_cons pp_int (pap_cons pp_non (pap_cons (pp_str z_15) (pap_cons pp_bl (pap_cons (pf_own (po_lst (pap_cons pp_int pap_nil))) (pap_cons (pp_op op_powF v_pow pp_int pp_int) pap_nil)))))))))) (pgp_name (i := 7) sc_law.nd rfl (Or.inl rfl)) (sp_one (s_if (ptp_cmp (op_neM (K := K) (hu65 hr)) v_eqM (pp_fnC tk F_law_refusal jtok_law (hr.mono (by decide)) rfl (pap_cons (pp_lam (L := lam_law_0) TB rfl rfl lfr_law_0) (pap_cons (pp_var (pv 7)) pap_nil))) (pp_tup (pap_cons (pp_str z_13) (pap_cons pp_bl (pap_cons pp_bl pap_nil)))) (nomark _)) (sp_one (s_ret pp_bl)) sp_nil)))
      (sp_cons (s_for po rfl (ip_lst (pf_own (po_lst (pap_cons (pp_str z_16) (pap_cons pp_non (pap_cons pp_int (pap_cons (pf_own (po_lst (pap_cons (pp_str z_15) pap_nil))) (pap_cons (pp_op op_mulF v_mul (pp_str z_15) pp_int) pap_nil)))))))) (pgp_name (i := 7) sc_law.nd rfl (Or.inl rfl)) (sp_one (s_if (ptp_cmp (op_neM (K := K) (hu65 hr)) v_eqM (pp_fnC tk F_law_refusal jtok_law (hr.mono (by decide)) rfl (pap_cons (pp_lam (L := lam_law_1) TB rfl rfl lfr_law_1) (pap_cons (pp_var (pv 7)) pap_nil))) (pp_tup (pap_cons (pp_str z_14) (pap_cons pp_bl (pap_cons pp_bl pap_nil)))) (nomark _)) (sp_one (s_ret pp_bl)) sp_nil)))
      (sp_one (s_ret (pp_and (pp_cmp (op_eqP (K := K) hr.units) v_eq (pp_fn tk F_count_of (hr.mono (by decide)) rfl (pap_cons (pp_ix (pb_slot (pv 4)) pp_int (fun _ _ => rfl)) (pap_cons (pp_str z_7) pap_nil))) pp_int (nomark _)) (pp_one (pp_cmp (op_eqP (K := K) hr.units) v_eq (pp_fn tk F_count_of (hr.mono (by decide)) rfl (pap_cons (pp_ix (pb_slot (pv 4)) pp_int (fun _ _ => rfl)) (pap_cons (pp_op op_mulF v_mul (pp_str z_17) pp_int) pap_nil))) (pp_op op_mulF v_mul pp_int (pp_ix (pb_val (pp_ix (pb_slot (pv 2)) pp_int (fun _ _ => rfl))) pp_int (fun _ _ => rfl))) (nomark _)))))))))))))))), fun ds M E0 Q0 hlen h => ?_⟩)
  generalize capOf _ = g
  obtain ⟨ns, hds, hTs, k⟩ := h
  have hMP : M P_law = some (.tbl lam_law_0.qual) := hTs _ (.head _)
  clear hTs
  have hcn : ∃ d, ds = [d] := by
    rcases hds with rfl | rfl
    · exact ⟨_, rfl⟩
    · exact ⟨_, rfl⟩
  obtain ⟨d, rfl⟩ := hcn
  walk_at "pg"
  refine ⟨ns, hds, fun c hc => ?_⟩
  walk_at "pg"
  have hcell : isCell c = true := by
    obtain ⟨_, _, _, _, _, rfl, _⟩ := hc
    rfl
  refine ⟨hcell, fun a ha => ?_⟩
  have hne : P_law ≠ a := fun z => by rw [z, ha] at hMP; cases hMP
  have hP : ∀ c, updM M a c P_law = some (.tbl lam_law_0.qual) := fun c => (updM_ne hne).trans hMP
  walk_at "pg"
  refine ⟨a, rfl, BagP.upd hc, fun w0 c1 hw0 hc1 => ?_⟩
  walk_at "pg"
  refine ⟨a, rfl, BagP.upd hc1, fun w1 c2 hw1 hc2 => ?_⟩
  obtain ⟨hl0, hb0⟩ := good_iff.mp hw0
  obtain ⟨hl1, hb1⟩ := good_iff.mp hw1
  have hlm : ∀ {ws : List Int}, ws.length = 10 → (ws.map D.int).length = 10 := fun h => by rw [List.length_map]; exact h
  have hlm0 := hlm hl0
  have hlm1 := hlm hl1
  walk_at "pc"
  refine fun p0 hp0 => ?_
  walk_at "pc"
  refine fun p1 hp1 => ?_
  have e10 : p1 ≠ p0 := fun z => by rw [z, updM_same] at hp1; cases hp1
  walk_at "pc"
  have hpa : ∀ p, updM M a c2 p = none → p ≠ a := fun p h z => by rw [z, updM_same] at h; cases h
  have hpP : ∀ p, updM M a c2 p = none → p ≠ P_law := fun p h z => by rw [z, hP] at h; cases h
  have hp1' : updM M a c2 p1 = none := by rw [updM_ne e10] at hp1; exact hp1
  have m0 : updM (updM (updM M a c2) p0 (D.lst (List.map D.int w0))) p1 (D.lst (List.map D.int w1)) p0 = some (D.lst (List.map D.int w0)) := by rw [updM_ne (Ne.symm e10), updM_same]
  have m1 : updM (updM (updM M a c2) p0 (D.lst (List.map D.int w0))) p1 (D.lst (List.map D.int w1)) p1 = some (D.lst (List.map D.int w1)) := updM_same
  have ma : BagP (updM (updM (updM M a c2) p0 (D.lst (List.map D.int w0))) p1 (D.lst (List.map D.int w1))) a := ⟨c2, by rw [updM_ne (Ne.symm (hpa p1 hp1')), updM_ne (Ne.symm (hpa p0 hp0)), updM_same], hc2⟩
  have mP : updM (updM (updM M a c2) p0 (D.lst (List.map D.int w0))) p1 (D.lst (List.map D.int w1)) P_law = some (.tbl lam_law_0.qual) := by rw [updM_ne (Ne.symm (hpP p1 hp1')), updM_ne (Ne.symm (hpP p0 hp0))]; exact hP c2
  generalize updM (updM (updM M a c2) p0 (D.lst (List.map D.int w0))) p1 (D.lst (List.map D.int w1)) = M2 at *
  intro x hx
  refine .inr ⟨x, p0, _, rfl, updM_same, ?_, hw0, ty_ints _, ?_⟩
  · rw [updM_ne (fun z => by rw [← z, m0] at hx; cases hx)]
    exact m0
  walk_at "pc"
  rw [delM_upd hx]
  intro x hx
  refine .inr ⟨x, p1, _, rfl, updM_same, ?_, hw1, ty_ints _, ?_⟩
  · rw [updM_ne (fun z => by rw [← z, m1] at hx; cases hx)]
    exact m1
  walk_at "pc"
  rw [delM_upd hx]
  walk_at "pc"
  have pl : ∀ ws : List Int, plain 11 (D.lst (ws.map D.int)) = true := fun ws => plain_ints ws
  have ee : ∀ ws : List Int, eqD (D.lst (ws.map D.int)) (D.lst (ws.map D.int)) = true := fun ws => by
    show eqDs (ws.map D.int) (ws.map D.int) = true
    rw [eqDs_ints, decide_eq_true rfl]
  rw [m0, m1]
  walk_at "pw"
  refine ⟨?_, ?_⟩
  · simp only [plain_ints, Bool.and_self, pl, and_self]
  simp only [ee, eqDs_ints, decide_true, Bool.and_self, Bool.true_eq_false, if_false]
  walk_at "pc"
  rw [m0]
  walk_at "pc"
  have m1' : updM M2 p0 (D.lst (List.map D.int w0 ++ [D.int 3])) p1 = some (D.lst (List.map D.int w1)) := by rw [updM_ne e10]; exact m1
  rw [m1']
  walk_at "pc"
  refine ⟨4, by rw [ix_nn (by omega) (by omega)]; rfl, ?_⟩
  walk_at "pc"
  rw [m1']
  walk_at "pc"
  have J : ∀ (x y : D), BagP (updM (updM M2 p0 x) p1 y) a ∧ updM (updM M2 p0 x) p1 y P_law = some (.tbl lam_law_0.qual) := fun x y => by
    obtain ⟨cc, hcc, hcb⟩ := ma
    refine ⟨⟨cc, ?_, hcb⟩, ?_⟩
    · rw [updM_ne (Ne.symm (hpa p1 hp1')), updM_ne (Ne.symm (hpa p0 hp0))]
      exact hcc
    · rw [updM_ne (Ne.symm (hpP p1 hp1')), updM_ne (Ne.symm (hpP p0 hp0))]
      exact mP
  have JU : ∀ {M' : PHp} {c : D}, M' P_law = some (.tbl lam_law_0.qual) → updM M' a c P_law = some (.tbl lam_law_0.qual) := fun h => (updM_ne hne).trans h
  have pick : ∀ t : Int, t = 0 ∨ t = 1 → ∃ ws : List Int, goodW ws = true ∧ atI [D.obj "Table" [("row", .tup (w0.map D.int))], D.obj "Table" [("row", .tup (w1.map D.int))]] t = some (tabD ws) ∧ atI [D.lst (w0.map D.int), D.lst (w1.map D.int)] t = some (D.lst (ws.map D.int)) := fun t ht => by
    rcases ht with rfl | rfl
    · exact ⟨w0, hw0, rfl, rfl⟩
    · exact ⟨w1, hw1, rfl, rfl⟩
  refine forP_inv (fun i ρ M' => (BagP M' a ∧ M' P_law = some (.tbl lam_law_0.qual)) ∧ ∃ v5 v6, ρ = [some (.fz d), some (.fz (.ref a)), some (.fz (.lst [.lst (w0.map D.int), .lst (w1.map D.int)])), some (.fz (.lst [.ref p0, .ref p1])), some (.fz (.lst [D.obj "Table" [("row", .tup (w0.map D.int))], D.obj "Table" [("row", .tup (w1.map D.int))]])), v5, v6, none, none]) ⟨J _ _, _, _, rfl⟩ (fun _ _ _ _ _ => trivial) ?_ ?_
  · rintro i x ρ M' N hx ⟨⟨hB, hQ⟩, v5, v6, rfl⟩ hN
    obtain ⟨t, rfl, ht⟩ : ∃ t : Int, x = .int t ∧ (t = 0 ∨ t = 1) := by
      have hx := List.mem_of_getElem? hx
      simp only [List.mem_cons, List.not_mem_nil, or_false] at hx
      rcases hx with rfl | rfl | rfl
      · exact ⟨0, rfl, .inl rfl⟩
      · exact ⟨1, rfl, .inr rfl⟩
      · exact ⟨0, rfl, .inl rfl⟩
    obtain ⟨ws, hg, e1, e2⟩ := pick t ht
    obtain ⟨hl, hb⟩ := good_iff.mp hg
    walk_at "pg"
    rw [e1]
    walk_at "pg"
    rw [e2]
    walk_at "pg"
    refine ⟨a, ws, rfl, hB, hg, fun c3 hc3 => ?_⟩
    walk_at "pg"
    rw [e2]
    walk_at "pg"
    refine ⟨a, ws, rfl, BagP.upd hc3, hg, fun ws' c4 hg' hc4 => ?_⟩
    walk_at "pg"
    refine ⟨a, _, rfl, BagP.upd hc4, by simp, by simp, fun y c5 hy hc5 => ?_⟩
    obtain ⟨vs, rfl, hv⟩ : ∃ vs : List Int, y = .lst (vs.map D.int) ∧ goodW vs = true := by
      simp only [List.mem_cons, List.not_mem_nil, or_false] at hy
      rcases hy with rfl | rfl | rfl
      · exact ⟨w0, rfl, hw0⟩
      · exact ⟨w1, rfl, hw1⟩
      · exact ⟨ws', rfl, hg'⟩
    walk_at "pg"
    rw [e1]
    walk_at "pg"
    refine ⟨⟨_, rfl, rfl⟩, fun x hx => ?_⟩
    refine .inl ⟨x, _, rfl, updM_same, ⟨fun _ => rfl, _, rfl⟩, fun xs e => ?_, fun xs e hw => ?_, fun hw => ?_⟩
    · cases e
      exact ⟨by rw [List.length_map, (good_iff.mp hv).1]; decide, ty_ints _⟩
    rotate_left
    · rw [show worthsB (.lst (vs.map D.int)) = goodW vs from rfl, hv] at hw
      cases hw
    cases e
    walk_at "pg"
    rw [delM_upd hx]
    refine ⟨ws, vs, rfl, ?_⟩
    walk_at "pg"
    rw [e2]
    walk_at "pg"
    refine ⟨⟨plain_ints _, plain_ints _⟩, ?_⟩
    rw [eqDs_ints, show decide (ws = vs) = decide (vs = ws) from decide_eq_decide.mpr eq_comm, beq_self_eq_true]
    walk_at "pg"
    exact hN _ _ ⟨⟨BagP.upd hc5, JU hQ⟩, _, _, rfl⟩
  · rintro ρ M' ⟨⟨hB, hQ⟩, v5, v6, rfl⟩
    walk_at "pg"
    refine ⟨⟨by decide, by decide, by decide⟩, ?_⟩
    refine forP_inv (fun i ρ M2 => M2 = M' ∧ ∃ v7, ρ = [some (.fz d), some (.fz (.ref a)), some (.fz (.lst [.lst (w0.map D.int), .lst (w1.map D.int)])), some (.fz (.lst [.ref p0, .ref p1])), some (.fz (.lst [D.obj "Table" [("row", .tup (w0.map D.int))], D.obj "Table" [("row", .tup (w1.map D.int))]])), v5, v6, v7, none]) ⟨rfl, _, rfl⟩ (fun _ _ _ _ _ => trivial) ?_ ?_
    · rintro j y ρ M2 N2 hy ⟨rfl, u7, rfl⟩ hN2
      obtain ⟨ty, tb, tp⟩ := wrongS_all (List.mem_of_getElem? hy)
      walk_at "pg"
      first | refine ⟨hQ, fun lf => ?_⟩ | refine fun lf => ?_
      walk_at "pg"
      refine ⟨rfl, _, _, _, .inl ⟨rfl, rfl, rfl⟩, rfl, rfl, fun CT C hCT hfr hcs => ⟨lam_law_0, lf, C, _, y, _, rfl, .inl ⟨rfl, hfr, rfl, rfl⟩, hCT, by rw [hfr]; rfl, tp, fun E' Q' e1 e2 => ⟨y, w0, _, rfl, ty, hl0, tb, e1 _ ?_⟩⟩⟩
      unfold refS
      walk_at "pg"
      refine ⟨rfl, ?_⟩
      rw [eqMs_refl rfl]
      walk_at "pg"
      exact hN2 _ _ ⟨rfl, _, rfl⟩
    · rintro ρ M2 ⟨rfl, u7, rfl⟩
      walk_at "pg"
      refine forP_inv (fun i ρ M3 => M3 = M2 ∧ ∃ v7, ρ = [some (.fz d), some (.fz (.ref a)), some (.fz (.lst [.lst (w0.map D.int), .lst (w1.map D.int)])), some (.fz (.lst [.ref p0, .ref p1])), some (.fz (.lst [D.obj "Table" [("row", .tup (w0.map D.int))], D.obj "Table" [("row", .tup (w1.map D.int))]])), v5, v6, v7, none]) ⟨rfl, _, rfl⟩ (fun _ _ _ _ _ => trivial) ?_ ?_
      · rintro j y ρ M3 N2 hy ⟨rfl, u7, rfl⟩ hN2
        obtain ⟨ty, tl, tb, tp⟩ := wrongT_all (List.mem_of_getElem? hy)
        walk_at "pg"
        first | refine ⟨hQ, fun lf => ?_⟩ | refine fun lf => ?_
        walk_at "pg"
        refine ⟨rfl, _, _, _, .inr (.inl ⟨rfl, rfl, rfl⟩), rfl, rfl, fun CT C hCT hfr hcs => ⟨lam_law_1, lf, C, _, y, _, rfl, .inr (.inl ⟨rfl, hfr, rfl, rfl⟩), hCT, by rw [hfr]; rfl, tp, fun E' Q' e1 e2 => ⟨y, w0, _, rfl, ty, tl, tb, e2 _ ?_⟩⟩⟩
        unfold refT
        walk_at "pg"
        refine ⟨rfl, ?_⟩
        rw [eqMs_refl rfl]
        walk_at "pg"
        exact hN2 _ _ ⟨rfl, _, rfl⟩
      · rintro ρ M3 ⟨rfl, u7, rfl⟩
        have hr2k : (repL [55] 2000).length = 2000 := by rw [repL_sing, List.length_replicate]
        have h7 : 7 < w0.length := by omega
        walk_at "pg"
        refine .inl ⟨w1, [], rfl, hl1, by decide, rfl, ?_⟩
        walk_at "pg"
        have hs : sumW w0 (List.replicate 2000 55) = 2000 * w0[7] := by
          unfold sumW
          rw [List.map_replicate, List.getD_eq_getElem?_getD, List.getElem?_eq_getElem h7]
          have : ∀ (n : Nat) (x : Int), (List.replicate n x).sum = (n : Int) * x := fun n x => by
            induction n with
            | zero => simp
            | succ n ih => rw [List.replicate_succ, List.sum_cons, ih]; push_cast; rw [Int.add_mul, Int.one_mul, Int.add_comm]
          exact this 2000 _
        refine .inl ⟨w0, _, rfl, hl0, by omega, by rw [repL_sing]; exact List.all_eq_true.mpr fun c hc => by rw [(List.mem_replicate.mp hc).2]; rfl, ?_⟩
        rw [repL_sing, hs]
        walk_at "pg"
        rw [List.getElem?_map, List.getElem?_eq_getElem h7]
        walk_at "pg"
        exact k _
end

end CM

open PySem PySem.W PyProof.Rows in
set_option maxRecDepth 100000 in
set_option maxHeartbeats 0 in
theorem PySem.Challenge.cw_cabmeters_k15_tables_of_worths_holds : PySem.Challenge.rw_cabmeters_k15_tables_of_worths.Holds := by
  w_on; o_law; k_head; (case hw => w_witness2)
  k_fill
  refine CM.walkPT (l := PySem.Challenge.rw_cabmeters_k15_tables_of_worths) 8 rfl rfl ⟨rfl, by decide, by decide⟩ rfl (fun w h Y => PySem.W.km_in_of Y) ?F
  case F =>
    intro w mg mb h lo mean TT KX G
    have n_abs : mg "abs" = none := by
      refine' PySem.W.mg_none_of KX G ?z
      (case z => k_is)
    have n_all : mg "all" = none := by
      refine' PySem.W.mg_none_of KX G ?z
      (case z => k_is)
    have n_bool : mg "bool" = none := by
      refine' PySem.W.mg_none_of KX G ?z
      (case z => k_is)
    have n_int : mg "int" = none := by
      refine' PySem.W.mg_none_of KX G ?z
      (case z => k_is)
    have n_isinstance : mg "isinstance" = none := by
      refine' PySem.W.mg_none_of KX G ?z
      (case z => k_is)
    have n_len : mg "len" = none := by
      refine' PySem.W.mg_none_of KX G ?z
      (case z => k_is)
    have n_list : mg "list" = none := by
      refine' PySem.W.mg_none_of KX G ?z
      (case z => k_is)
    have n_max : mg "max" = none := by
      refine' PySem.W.mg_none_of KX G ?z
      (case z => k_is)
    have n_min : mg "min" = none := by
      refine' PySem.W.mg_none_of KX G ?z
      (case z => k_is)
    have n_range : mg "range" = none := by
      refine' PySem.W.mg_none_of KX G ?z
      (case z => k_is)
    have n_str : mg "str" = none := by
      refine' PySem.W.mg_none_of KX G ?z
      (case z => k_is)
    have n_sum : mg "sum" = none := by
      refine' PySem.W.mg_none_of KX G ?z
      (case z => k_is)
    have n_tuple : mg "tuple" = none := by
      refine' PySem.W.mg_none_of KX G ?z
      (case z => k_is)
    have g_DIGITS : ∃ t, mg "DIGITS" = some (.str "0123456789" t) := by
      refine' CM.const_mk KX G ?z ?e
      (case z => k_is)
      (case e => exact ⟨_, rfl⟩)
    have g_GREATEST_SPEED : ∃ t, mg "GREATEST_SPEED" = some (.int 9 t) := by
      refine' CM.const_mk KX G ?z ?e
      (case z => k_is)
      (case e => exact ⟨_, rfl⟩)
    have g_GREATEST_WORTH : ∃ t, mg "GREATEST_WORTH" = some (.int 60 t) := by
      refine' CM.const_mk KX G ?z ?e
      (case z => k_is)
      (case e => exact ⟨_, rfl⟩)
    have g_MOST_TICKS : ∃ t, mg "MOST_TICKS" = some (.int 2000 t) := by
      refine' CM.const_mk KX G ?z ?e
      (case z => k_is)
      (case e => exact ⟨_, rfl⟩)
    have f_Table_row : CM.FldOf KX mg "Table" "row" := by
      refine' CM.fld_mk KX G ?fa ?fpg ?fhd ?fpo ?fsa ?fna
      (case fa => k_is)
      (case fpg => k_is)
      (case fhd => k_is)
      (case fpo => k_is)
      (case fsa => k_is)
      (case fna => k_is)
    have k_Table : CM.KeepOf KX mg "Table" := by
      refine' CM.keep_mk KX G ?ka ?kk
      (case ka => k_is)
      (case kk => k_is)
    have BX : CM.BaseXOf KX mg "MeterError" := by
      refine' CM.baseX_mk (mc := .type "type") KX G ?a ?s ?r ?f
      (case a => k_is)
      (case s => k_is)
      (case r => k_is)
      (case f => k_is)
    have DX_BadTrip : CM.XDfOf KX mg "BadTrip" "BadTrip.__init__" CM.s_BadTrip___init__ := by
      refine' CM.xdf_mk KX G ?xa ?xlc ?xhc ?xsa ?xexC ?xtyC ?xkC ?xga ?xgg ?xhdC ?xhno ?xiC ?xtI ?xl ?xci ?xk ?xhb
      (case xa => k_is)
      (case xlc => k_is)
      (case xhc => exact ⟨_, _, _, _, _, _, _, _, _, _, _, _, _, _, _, rfl, rfl⟩)
      (case xsa => k_is)
      (case xexC => k_is)
      (case xtyC => k_is)
      (case xkC => k_is)
      (case xga => k_is)
      (case xgg => k_is)
      (case xhdC => k_is)
      (case xhno => k_is)
      (case xiC => k_is)
      (case xtI => k_is)
      (case xl => k_is)
      (case xci => k_is)
      (case xk => k_is)
      (case xhb => exact fun _ _ _ _ _ _ us hl => match us, hl with | [_, _], _ => rfl)
    have DX_BadText : CM.XDfOf KX mg "BadText" "BadText.__init__" CM.s_BadText___init__ := by
      refine' CM.xdf_mk KX G ?xa ?xlc ?xhc ?xsa ?xexC ?xtyC ?xkC ?xga ?xgg ?xhdC ?xhno ?xiC ?xtI ?xl ?xci ?xk ?xhb
      (case xa => k_is)
      (case xlc => k_is)
      (case xhc => exact ⟨_, _, _, _, _, _, _, _, _, _, _, _, _, _, _, rfl, rfl⟩)
      (case xsa => k_is)
      (case xexC => k_is)
      (case xtyC => k_is)
      (case xkC => k_is)
      (case xga => k_is)
      (case xgg => k_is)
      (case xhdC => k_is)
      (case xhno => k_is)
      (case xiC => k_is)
      (case xtI => k_is)
      (case xl => k_is)
      (case xci => k_is)
      (case xk => k_is)
      (case xhb => exact fun _ _ _ _ _ _ us hl => match us, hl with | [_, _], _ => rfl)
    have DX_BadSpeed : CM.XDfOf KX mg "BadSpeed" "BadSpeed.__init__" CM.s_BadSpeed___init__ := by
      refine' CM.xdf_mk KX G ?xa ?xlc ?xhc ?xsa ?xexC ?xtyC ?xkC ?xga ?xgg ?xhdC ?xhno ?xiC ?xtI ?xl ?xci ?xk ?xhb
      (case xa => k_is)
      (case xlc => k_is)
      (case xhc => exact ⟨_, _, _, _, _, _, _, _, _, _, _, _, _, _, _, rfl, rfl⟩)
      (case xsa => k_is)
      (case xexC => k_is)
      (case xtyC => k_is)
      (case xkC => k_is)
      (case xga => k_is)
      (case xgg => k_is)
      (case xhdC => k_is)
      (case xhno => k_is)
      (case xiC => k_is)
      (case xtI => k_is)
      (case xl => k_is)
      (case xci => k_is)
      (case xk => k_is)
      (case xhb => exact fun _ _ _ _ _ _ us hl => match us, hl with | [_, _], _ => rfl)
    have DX_BadWorths : CM.XDfOf KX mg "BadWorths" "BadWorths.__init__" CM.s_BadWorths___init__ := by
      refine' CM.xdf_mk KX G ?xa ?xlc ?xhc ?xsa ?xexC ?xtyC ?xkC ?xga ?xgg ?xhdC ?xhno ?xiC ?xtI ?xl ?xci ?xk ?xhb
      (case xa => k_is)
      (case xlc => k_is)
      (case xhc => exact ⟨_, _, _, _, _, _, _, _, _, _, _, _, _, _, _, rfl, rfl⟩)
      (case xsa => k_is)
      (case xexC => k_is)
      (case xtyC => k_is)
      (case xkC => k_is)
      (case xga => k_is)
      (case xgg => k_is)
      (case xhdC => k_is)
      (case xhno => k_is)
      (case xiC => k_is)
      (case xtI => k_is)
      (case xl => k_is)
      (case xci => k_is)
      (case xk => k_is)
      (case xhb => exact fun _ _ _ _ _ _ us hl => match us, hl with | [_, _], _ => rfl)
    have xm : CM.XMatOf KX mg ["BadTrip", "BadText", "BadSpeed", "BadWorths"] := by
      refine CM.xmat_of fun c hc => ?_
      simp only [List.mem_cons, List.not_mem_nil, or_false] at hc
      rcases hc with rfl | rfl | rfl | rfl
      · refine' (CM.xrow_cons2 (PySem.W.mg_of KX G ?a0) (PySem.W.mg_of KX G ?b0) ?p0 ?q0 ?r0 ?s0 ?e0 (CM.xrow_cons2 (PySem.W.mg_of KX G ?a1) (PySem.W.mg_of KX G ?b1) ?p1 ?q1 ?r1 ?s1 ?e1 (CM.xrow_cons2 (PySem.W.mg_of KX G ?a2) (PySem.W.mg_of KX G ?b2) ?p2 ?q2 ?r2 ?s2 ?e2 (CM.xrow_cons2 (PySem.W.mg_of KX G ?a3) (PySem.W.mg_of KX G ?b3) ?p3 ?q3 ?r3 ?s3 ?e3 CM.xrow_nil))))
        (case a0 => k_is)
        (case b0 => k_is)
        (case p0 => k_is)
        (case q0 => k_is)
        (case r0 => k_is)
        (case s0 => k_is)
        (case e0 => decide +kernel)
        (case a1 => k_is)
        (case b1 => k_is)
        (case p1 => k_is)
        (case q1 => k_is)
        (case r1 => k_is)
        (case s1 => k_is)
        (case e1 => decide +kernel)
        (case a2 => k_is)
        (case b2 => k_is)
        (case p2 => k_is)
        (case q2 => k_is)
        (case r2 => k_is)
        (case s2 => k_is)
        (case e2 => decide +kernel)
        (case a3 => k_is)
        (case b3 => k_is)
        (case p3 => k_is)
        (case q3 => k_is)
        (case r3 => k_is)
        (case s3 => k_is)
        (case e3 => decide +kernel)
      · refine' (CM.xrow_cons2 (PySem.W.mg_of KX G ?a0) (PySem.W.mg_of KX G ?b0) ?p0 ?q0 ?r0 ?s0 ?e0 (CM.xrow_cons2 (PySem.W.mg_of KX G ?a1) (PySem.W.mg_of KX G ?b1) ?p1 ?q1 ?r1 ?s1 ?e1 (CM.xrow_cons2 (PySem.W.mg_of KX G ?a2) (PySem.W.mg_of KX G ?b2) ?p2 ?q2 ?r2 ?s2 ?e2 (CM.xrow_cons2 (PySem.W.mg_of KX G ?a3) (PySem.W.mg_of KX G ?b3) ?p3 ?q3 ?r3 ?s3 ?e3 CM.xrow_nil))))
        (case a0 => k_is)
        (case b0 => k_is)
        (case p0 => k_is)
        (case q0 => k_is)
        (case r0 => k_is)
        (case s0 => k_is)
        (case e0 => decide +kernel)
        (case a1 => k_is)
        (case b1 => k_is)
        (case p1 => k_is)
        (case q1 => k_is)
        (case r1 => k_is)
        (case s1 => k_is)
        (case e1 => decide +kernel)
        (case a2 => k_is)
        (case b2 => k_is)
        (case p2 => k_is)
        (case q2 => k_is)
        (case r2 => k_is)
        (case s2 => k_is)
        (case e2 => decide +kernel)
        (case a3 => k_is)
        (case b3 => k_is)
        (case p3 => k_is)
        (case q3 => k_is)
        (case r3 => k_is)
        (case s3 => k_is)
        (case e3 => decide +kernel)
      · refine' (CM.xrow_cons2 (PySem.W.mg_of KX G ?a0) (PySem.W.mg_of KX G ?b0) ?p0 ?q0 ?r0 ?s0 ?e0 (CM.xrow_cons2 (PySem.W.mg_of KX G ?a1) (PySem.W.mg_of KX G ?b1) ?p1 ?q1 ?r1 ?s1 ?e1 (CM.xrow_cons2 (PySem.W.mg_of KX G ?a2) (PySem.W.mg_of KX G ?b2) ?p2 ?q2 ?r2 ?s2 ?e2 (CM.xrow_cons2 (PySem.W.mg_of KX G ?a3) (PySem.W.mg_of KX G ?b3) ?p3 ?q3 ?r3 ?s3 ?e3 CM.xrow_nil))))
        (case a0 => k_is)
        (case b0 => k_is)
        (case p0 => k_is)
        (case q0 => k_is)
        (case r0 => k_is)
        (case s0 => k_is)
        (case e0 => decide +kernel)
        (case a1 => k_is)
        (case b1 => k_is)
        (case p1 => k_is)
        (case q1 => k_is)
        (case r1 => k_is)
        (case s1 => k_is)
        (case e1 => decide +kernel)
        (case a2 => k_is)
        (case b2 => k_is)
        (case p2 => k_is)
        (case q2 => k_is)
        (case r2 => k_is)
        (case s2 => k_is)
        (case e2 => decide +kernel)
        (case a3 => k_is)
        (case b3 => k_is)
        (case p3 => k_is)
        (case q3 => k_is)
        (case r3 => k_is)
        (case s3 => k_is)
        (case e3 => decide +kernel)
      · refine' (CM.xrow_cons2 (PySem.W.mg_of KX G ?a0) (PySem.W.mg_of KX G ?b0) ?p0 ?q0 ?r0 ?s0 ?e0 (CM.xrow_cons2 (PySem.W.mg_of KX G ?a1) (PySem.W.mg_of KX G ?b1) ?p1 ?q1 ?r1 ?s1 ?e1 (CM.xrow_cons2 (PySem.W.mg_of KX G ?a2) (PySem.W.mg_of KX G ?b2) ?p2 ?q2 ?r2 ?s2 ?e2 (CM.xrow_cons2 (PySem.W.mg_of KX G ?a3) (PySem.W.mg_of KX G ?b3) ?p3 ?q3 ?r3 ?s3 ?e3 CM.xrow_nil))))
        (case a0 => k_is)
        (case b0 => k_is)
        (case p0 => k_is)
        (case q0 => k_is)
        (case r0 => k_is)
        (case s0 => k_is)
        (case e0 => decide +kernel)
        (case a1 => k_is)
        (case b1 => k_is)
        (case p1 => k_is)
        (case q1 => k_is)
        (case r1 => k_is)
        (case s1 => k_is)
        (case e1 => decide +kernel)
        (case a2 => k_is)
        (case b2 => k_is)
        (case p2 => k_is)
        (case q2 => k_is)
        (case r2 => k_is)
        (case s2 => k_is)
        (case e2 => decide +kernel)
        (case a3 => k_is)
        (case b3 => k_is)
        (case p3 => k_is)
        (case q3 => k_is)
        (case r3 => k_is)
        (case s3 => k_is)
        (case e3 => decide +kernel)
    have xb : CM.XBasOf KX mg ["BadTrip", "BadText", "BadSpeed", "BadWorths"] "MeterError" := by
      refine' (CM.xbas_cons2 (PySem.W.mg_of KX G ?a0) (PySem.W.mg_of KX G ?m0) ?e0 ?p0 ?q0 ?r0 (CM.xbas_cons2 (PySem.W.mg_of KX G ?a1) (PySem.W.mg_of KX G ?m1) ?e1 ?p1 ?q1 ?r1 (CM.xbas_cons2 (PySem.W.mg_of KX G ?a2) (PySem.W.mg_of KX G ?m2) ?e2 ?p2 ?q2 ?r2 (CM.xbas_cons2 (PySem.W.mg_of KX G ?a3) (PySem.W.mg_of KX G ?m3) ?e3 ?p3 ?q3 ?r3 (CM.xbas_nil (PySem.W.mg_of KX G ?m))))))
      (case a0 => k_is)
      (case m0 => k_is)
      (case p0 => k_is)
      (case q0 => k_is)
      (case r0 => k_is)
      (case e0 => rfl)
      (case a1 => k_is)
      (case m1 => k_is)
      (case p1 => k_is)
      (case q1 => k_is)
      (case r1 => k_is)
      (case e1 => rfl)
      (case a2 => k_is)
      (case m2 => k_is)
      (case p2 => k_is)
      (case q2 => k_is)
      (case r2 => k_is)
      (case e2 => rfl)
      (case a3 => k_is)
      (case m3 => k_is)
      (case p3 => k_is)
      (case q3 => k_is)
      (case r3 => k_is)
      (case e3 => rfl)
      (case m => k_is)
    have T : CM.TxtOf KX mg := ⟨n_abs, n_all, n_bool, n_int, n_isinstance, n_len, n_list, n_max, n_min, n_range, n_str, n_sum, n_tuple, g_DIGITS, g_GREATEST_SPEED, g_GREATEST_WORTH, g_MOST_TICKS, f_Table_row, k_Table, xm, xb⟩
    have D_is_whole : CM.DfOf KX mg "is_whole" CM.s_is_whole ["value"] := by
      refine' CM.df_mk KX G ?a ?l ?c ?k ?b
      (case a => k_is)
      (case l => k_is)
      (case c => k_is)
      (case k => k_is)
      (case b => exact fun _ _ _ _ _ _ us hl => match us, hl with | [_], _ => rfl)
    have D_is_between : CM.DfOf KX mg "is_between" CM.s_is_between ["value", "least", "most"] := by
      refine' CM.df_mk KX G ?a ?l ?c ?k ?b
      (case a => k_is)
      (case l => k_is)
      (case c => k_is)
      (case k => k_is)
      (case b => exact fun _ _ _ _ _ _ us hl => match us, hl with | [_, _, _], _ => rfl)
    have D_is_speed : CM.DfOf KX mg "is_speed" CM.s_is_speed ["value"] := by
      refine' CM.df_mk KX G ?a ?l ?c ?k ?b
      (case a => k_is)
      (case l => k_is)
      (case c => k_is)
      (case k => k_is)
      (case b => exact fun _ _ _ _ _ _ us hl => match us, hl with | [_], _ => rfl)
    have D_is_trip : CM.DfOf KX mg "is_trip" CM.s_is_trip ["value"] := by
      refine' CM.df_mk KX G ?a ?l ?c ?k ?b
      (case a => k_is)
      (case l => k_is)
      (case c => k_is)
      (case k => k_is)
      (case b => exact fun _ _ _ _ _ _ us hl => match us, hl with | [_], _ => rfl)
    have D_check_trip : CM.DfOf KX mg "check_trip" CM.s_check_trip ["trip"] := by
      refine' CM.df_mk KX G ?a ?l ?c ?k ?b
      (case a => k_is)
      (case l => k_is)
      (case c => k_is)
      (case k => k_is)
      (case b => exact fun _ _ _ _ _ _ us hl => match us, hl with | [_], _ => rfl)
    have D_number_in : CM.DfOf KX mg "number_in" CM.s_number_in ["word", "most"] := by
      refine' CM.df_mk KX G ?a ?l ?c ?k ?b
      (case a => k_is)
      (case l => k_is)
      (case c => k_is)
      (case k => k_is)
      (case b => exact fun _ _ _ _ _ _ us hl => match us, hl with | [_, _], _ => rfl)
    have D_are_worths : CM.DfOf KX mg "are_worths" CM.s_are_worths ["value"] := by
      refine' CM.df_mk KX G ?a ?l ?c ?k ?b
      (case a => k_is)
      (case l => k_is)
      (case c => k_is)
      (case k => k_is)
      (case b => exact fun _ _ _ _ _ _ us hl => match us, hl with | [_], _ => rfl)
    have D_Table___init__ : CM.MDfI KX mg "Table" "__init__" "Table.__init__" CM.s_Table___init__ ["self", "worths"] := by
      refine' CM.mdfI_mk KX G ?ma ?mmk ?mat ?mfn ?mkp ?ml ?mci ?mk ?mb
      (case ma => k_is)
      (case mmk => k_is)
      (case mat => k_is)
      (case mfn => k_is)
      (case mkp => k_is)
      (case ml => k_is)
      (case mci => k_is)
      (case mk => k_is)
      (case mb => exact fun _ _ _ _ _ _ us hl => match us, hl with | [_, _], _ => rfl)
    have D_Table_read : CM.MDfC KX mg "Table" "read" "Table.read" CM.s_Table_read ["cls", "text"] := by
      refine' CM.mdfC_mk (mc := .type "type") KX G ?ma ?mrd ?mga ?mat ?mrc ?mfi ?ml ?mci ?mk ?mb
      (case ma => k_is)
      (case mrd => k_is)
      (case mga => k_is)
      (case mat => k_is)
      (case mrc => k_is)
      (case mfi => k_is)
      (case ml => k_is)
      (case mci => k_is)
      (case mk => k_is)
      (case mb => exact fun _ _ _ _ _ _ us hl => match us, hl with | [_, _], _ => rfl)
    have D_Table_worths : CM.MDfP KX mg "Table" "worths" "Table.worths" CM.s_Table_worths ["self"] := by
      refine' CM.mdfP_mk KX G ?ma ?mpg ?mhd ?mpo ?msa ?mat ?mgt ?mtk ?mrc ?ml ?mci ?mk ?mb
      (case ma => k_is)
      (case mpg => k_is)
      (case mhd => k_is)
      (case mpo => k_is)
      (case msa => k_is)
      (case mat => k_is)
      (case mgt => k_is)
      (case mtk => k_is)
      (case mrc => k_is)
      (case ml => k_is)
      (case mci => k_is)
      (case mk => k_is)
      (case mb => exact fun _ _ _ _ _ _ us hl => match us, hl with | [_], _ => rfl)
    have D_Table___getitem__ : CM.MDfG KX mg "Table" "__getitem__" "Table.__getitem__" CM.s_Table___getitem__ ["self", "speed"] := by
      refine' CM.mdfG_mk KX G ?ma ?mat ?mfi ?mfn ?ml ?mci ?mk ?mb
      (case ma => k_is)
      (case mat => k_is)
      (case mfi => k_is)
      (case mfn => k_is)
      (case ml => k_is)
      (case mci => k_is)
      (case mk => k_is)
      (case mb => exact fun _ _ _ _ _ _ us hl => match us, hl with | [_, _], _ => rfl)
    have D_Table_same : CM.MDfM KX mg "Table" "same" "Table.same" CM.s_Table_same ["self", "other"] := by
      refine' CM.mdfM_mk KX G ?ma ?mpg ?mhd ?mpo ?msa ?mat ?mfn ?ml ?mci ?mk ?mb
      (case ma => k_is)
      (case mpg => k_is)
      (case mhd => k_is)
      (case mpo => k_is)
      (case msa => k_is)
      (case mat => k_is)
      (case mfn => k_is)
      (case ml => k_is)
      (case mci => k_is)
      (case mk => k_is)
      (case mb => exact fun _ _ _ _ _ _ us hl => match us, hl with | [_, _], _ => rfl)
    have D_Table_text : CM.MDfM KX mg "Table" "text" "Table.text" CM.s_Table_text ["self"] := by
      refine' CM.mdfM_mk KX G ?ma ?mpg ?mhd ?mpo ?msa ?mat ?mfn ?ml ?mci ?mk ?mb
      (case ma => k_is)
      (case mpg => k_is)
      (case mhd => k_is)
      (case mpo => k_is)
      (case msa => k_is)
      (case mat => k_is)
      (case mfn => k_is)
      (case ml => k_is)
      (case mci => k_is)
      (case mk => k_is)
      (case mb => exact fun _ _ _ _ _ _ us hl => match us, hl with | [_], _ => rfl)
    have D_count_of : CM.DfOf KX mg "count_of" CM.s_count_of ["table", "trip"] := by
      refine' CM.df_mk KX G ?a ?l ?c ?k ?b
      (case a => k_is)
      (case l => k_is)
      (case c => k_is)
      (case k => k_is)
      (case b => exact fun _ _ _ _ _ _ us hl => match us, hl with | [_, _], _ => rfl)
    have D_law_bag : CM.DfOf KX mg "_law_bag" CM.s_law_bag ["_law_script"] := by
      refine' CM.df_mk KX G ?a ?l ?c ?k ?b
      (case a => k_is)
      (case l => k_is)
      (case c => k_is)
      (case k => k_is)
      (case b => exact fun _ _ _ _ _ _ us hl => match us, hl with | [_], _ => rfl)
    have D_law_draw : CM.DfOf KX mg "_law_draw" CM.s_law_draw ["_law_bag_here", "_law_size"] := by
      refine' CM.df_mk KX G ?a ?l ?c ?k ?b
      (case a => k_is)
      (case l => k_is)
      (case c => k_is)
      (case k => k_is)
      (case b => exact fun _ _ _ _ _ _ us hl => match us, hl with | [_, _], _ => rfl)
    have D_law_pick : CM.DfOf KX mg "_law_pick" CM.s_law_pick ["_law_bag_here", "_law_items"] := by
      refine' CM.df_mk KX G ?a ?l ?c ?k ?b
      (case a => k_is)
      (case l => k_is)
      (case c => k_is)
      (case k => k_is)
      (case b => exact fun _ _ _ _ _ _ us hl => match us, hl with | [_, _], _ => rfl)
    have D_law_mixed : CM.DfOf KX mg "_law_mixed" CM.s_law_mixed ["_law_bag_here", "_law_items"] := by
      refine' CM.df_mk KX G ?a ?l ?c ?k ?b
      (case a => k_is)
      (case l => k_is)
      (case c => k_is)
      (case k => k_is)
      (case b => exact fun _ _ _ _ _ _ us hl => match us, hl with | [_, _], _ => rfl)
    have D_law_drawn_trip : CM.DfOf KX mg "_law_drawn_trip" CM.s_law_drawn_trip ["_law_bag_here", "_law_most", "_law_top"] := by
      refine' CM.df_mk KX G ?a ?l ?c ?k ?b
      (case a => k_is)
      (case l => k_is)
      (case c => k_is)
      (case k => k_is)
      (case b => exact fun _ _ _ _ _ _ us hl => match us, hl with | [_, _, _], _ => rfl)
    have D_law_worths : CM.DfOf KX mg "_law_worths" CM.s_law_worths ["_law_bag_here"] := by
      refine' CM.df_mk KX G ?a ?l ?c ?k ?b
      (case a => k_is)
      (case l => k_is)
      (case c => k_is)
      (case k => k_is)
      (case b => exact fun _ _ _ _ _ _ us hl => match us, hl with | [_], _ => rfl)
    have D_law_sum : CM.DfOf KX mg "_law_sum" CM.s_law_sum ["_law_worths_here", "_law_trip"] := by
      refine' CM.df_mk KX G ?a ?l ?c ?k ?b
      (case a => k_is)
      (case l => k_is)
      (case c => k_is)
      (case k => k_is)
      (case b => exact fun _ _ _ _ _ _ us hl => match us, hl with | [_, _], _ => rfl)
    have D_law_refusal : CM.DfOf KX mg "_law_refusal" CM.s_law_refusal ["_law_deed", "_law_thing"] := by
      refine' CM.df_mk KX G ?a ?l ?c ?k ?b
      (case a => k_is)
      (case l => k_is)
      (case c => k_is)
      (case k => k_is)
      (case b => exact fun _ _ _ _ _ _ us hl => match us, hl with | [_, _], _ => rfl)
    have D_law_table_right : CM.DfOf KX mg "_law_table_right" CM.s_law_table_right ["_law_bag_here", "_law_table", "_law_worths_here"] := by
      refine' CM.df_mk KX G ?a ?l ?c ?k ?b
      (case a => k_is)
      (case l => k_is)
      (case c => k_is)
      (case k => k_is)
      (case b => exact fun _ _ _ _ _ _ us hl => match us, hl with | [_, _, _], _ => rfl)
    have D_law_changed : CM.DfOf KX mg "_law_changed" CM.s_law_changed ["_law_bag_here", "_law_worths_here"] := by
      refine' CM.df_mk KX G ?a ?l ?c ?k ?b
      (case a => k_is)
      (case l => k_is)
      (case c => k_is)
      (case k => k_is)
      (case b => exact fun _ _ _ _ _ _ us hl => match us, hl with | [_, _], _ => rfl)
    have D_law : CM.LawOf KX mg CM.s_law := by
      refine' CM.law_mk KX G ?a ?l ?c ?k ?b
      (case a => k_is)
      (case l => k_is)
      (case c => k_is)
      (case k => k_is)
      (case b => exact fun _ _ _ _ _ _ us hl => match us, hl with | [_], _ => rfl)
    obtain ⟨c_law, P_law, nd_, D_l_law, TA_law⟩ : ∃ c_law P_law, [P_law].Nodup ∧ CM.DfLOf KX mg "law" CM.s_law ["_law_script"] c_law ∧ CM.TabAtOf KX c_law P_law := by
      refine' ⟨_, _, ?xnd, CM.dfl_mk KX G ?xa0 ?xl0 ?xci0 ?xk0 ?xb0, CM.tab_mk (x := "law") TT KX ?xr0 ?ya0 ?yl0 ?yc0 ?ylc0 ?yh0 ?yo0⟩
      (case xa0 => k_is)
      (case xl0 => k_is)
      (case xci0 => k_is)
      (case xk0 => k_is)
      (case xb0 => exact fun _ _ _ _ _ _ us hl => match us, hl with | [_], _ => rfl)
      (case xr0 => rfl)
      (case ya0 => k_is)
      (case yl0 => k_is)
      (case yc0 => rfl)
      (case ylc0 => k_is)
      (case yh0 => rfl)
      (case yo0 => kernel_rfl)
      (case xnd => decide)
    refine ⟨[(c_law, P_law, CM.lam_law_0.qual)], nd_, fun p hp => ?_, ⟨_, D_law⟩, fun base _ _ TBS => ?_⟩
    · simp only [List.mem_cons, List.not_mem_nil, or_false] at hp
      rcases hp with rfl
      · exact TA_law
    have TB_law := TBS _ (.head _)
    have X_BadTrip := CM.okx_BadTrip DX_BadTrip BX (P := (PySem.Challenge.rw_cabmeters_k15_tables_of_worths).prog) (w := w) (base := base)
    have X_BadText := CM.okx_BadText DX_BadText BX (P := (PySem.Challenge.rw_cabmeters_k15_tables_of_worths).prog) (w := w) (base := base)
    have X_BadSpeed := CM.okx_BadSpeed DX_BadSpeed BX (P := (PySem.Challenge.rw_cabmeters_k15_tables_of_worths).prog) (w := w) (base := base)
    have X_BadWorths := CM.okx_BadWorths DX_BadWorths BX (P := (PySem.Challenge.rw_cabmeters_k15_tables_of_worths).prog) (w := w) (base := base)
    have F_is_whole := CM.ok_is_whole D_is_whole T (P := (PySem.Challenge.rw_cabmeters_k15_tables_of_worths).prog) (w := w) (base := base)
    have F_is_trip := CM.ok_is_trip D_is_trip T (P := (PySem.Challenge.rw_cabmeters_k15_tables_of_worths).prog) (w := w) (base := base)
    have F_number_in := CM.ok_number_in D_number_in T (P := (PySem.Challenge.rw_cabmeters_k15_tables_of_worths).prog) (w := w) (base := base)
    have F_Table_worths := CM.ok_Table_worths D_Table_worths T (P := (PySem.Challenge.rw_cabmeters_k15_tables_of_worths).prog) (w := w) (base := base)
    have F_Table_same := CM.ok_Table_same D_Table_same T (P := (PySem.Challenge.rw_cabmeters_k15_tables_of_worths).prog) (w := w) (base := base)
    have F_Table_text := CM.ok_Table_text D_Table_text T (P := (PySem.Challenge.rw_cabmeters_k15_tables_of_worths).prog) (w := w) (base := base)
    have F_law_bag := CM.ok_law_bag D_law_bag T (P := (PySem.Challenge.rw_cabmeters_k15_tables_of_worths).prog) (w := w) (base := base)
    have F_law_draw := CM.ok_law_draw D_law_draw T (P := (PySem.Challenge.rw_cabmeters_k15_tables_of_worths).prog) (w := w) (base := base)
    have F_law_sum := CM.ok_law_sum D_law_sum T (P := (PySem.Challenge.rw_cabmeters_k15_tables_of_worths).prog) (w := w) (base := base)
    have F_is_between := CM.ok_is_between D_is_between F_is_whole T (P := (PySem.Challenge.rw_cabmeters_k15_tables_of_worths).prog) (w := w) (base := base)
    have F_law_pick := CM.ok_law_pick D_law_pick F_law_draw T (P := (PySem.Challenge.rw_cabmeters_k15_tables_of_worths).prog) (w := w) (base := base)
    have F_law_mixed := CM.ok_law_mixed D_law_mixed F_law_draw T (P := (PySem.Challenge.rw_cabmeters_k15_tables_of_worths).prog) (w := w) (base := base)
    have F_law_drawn_trip := CM.ok_law_drawn_trip D_law_drawn_trip F_law_draw T (P := (PySem.Challenge.rw_cabmeters_k15_tables_of_worths).prog) (w := w) (base := base)
    have F_law_worths := CM.ok_law_worths D_law_worths F_law_draw T (P := (PySem.Challenge.rw_cabmeters_k15_tables_of_worths).prog) (w := w) (base := base)
    have F_law_changed := CM.ok_law_changed D_law_changed F_law_draw T (P := (PySem.Challenge.rw_cabmeters_k15_tables_of_worths).prog) (w := w) (base := base)
    have F_is_speed := CM.ok_is_speed D_is_speed F_is_between T (P := (PySem.Challenge.rw_cabmeters_k15_tables_of_worths).prog) (w := w) (base := base)
    have F_check_trip := CM.ok_check_trip D_check_trip F_is_trip X_BadTrip T (P := (PySem.Challenge.rw_cabmeters_k15_tables_of_worths).prog) (w := w) (base := base)
    have F_are_worths := CM.ok_are_worths D_are_worths F_is_between T (P := (PySem.Challenge.rw_cabmeters_k15_tables_of_worths).prog) (w := w) (base := base)
    have F_Table___init__ := CM.ok_Table___init__ D_Table___init__ F_are_worths X_BadWorths T (P := (PySem.Challenge.rw_cabmeters_k15_tables_of_worths).prog) (w := w) (base := base)
    have F_Table___getitem__ := CM.ok_Table___getitem__ D_Table___getitem__ F_is_speed X_BadSpeed T (P := (PySem.Challenge.rw_cabmeters_k15_tables_of_worths).prog) (w := w) (base := base)
    have F_count_of := CM.ok_count_of D_count_of F_check_trip F_Table_worths T (P := (PySem.Challenge.rw_cabmeters_k15_tables_of_worths).prog) (w := w) (base := base)
    have L_law_1 := CM.okl_law_1 F_count_of T (P := (PySem.Challenge.rw_cabmeters_k15_tables_of_worths).prog) (w := w) (base := base)
    have F_Table_read := CM.ok_Table_read D_Table_read F_number_in F_are_worths F_Table___init__ X_BadText T (P := (PySem.Challenge.rw_cabmeters_k15_tables_of_worths).prog) (w := w) (base := base)
    have L_law_0 := CM.okl_law_0 F_Table___getitem__ T (P := (PySem.Challenge.rw_cabmeters_k15_tables_of_worths).prog) (w := w) (base := base)
    have F_law_refusal := CM.ok_law_refusal D_law_refusal L_law_0 L_law_1 X_BadSpeed X_BadTrip T (P := (PySem.Challenge.rw_cabmeters_k15_tables_of_worths).prog) (w := w) (base := base)
    have F_law_table_right := CM.ok_law_table_right D_law_table_right F_Table_read F_Table_worths F_Table___getitem__ F_Table_same F_Table_text F_count_of F_law_mixed F_law_drawn_trip F_law_sum T (P := (PySem.Challenge.rw_cabmeters_k15_tables_of_worths).prog) (w := w) (base := base)
    exact CM.ok_law D_l_law F_Table___init__ F_Table_same F_count_of F_law_bag F_law_pick F_law_worths F_law_refusal F_law_table_right F_law_changed TB_law T
#print axioms PySem.Challenge.cw_cabmeters_k15_tables_of_worths_holds

