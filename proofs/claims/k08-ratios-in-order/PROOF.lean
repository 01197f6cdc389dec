import PyProof.Rows.All
import Wide.All
import OpenK.AllK
import Wide.FinOn
import HandS.ForMost
import HandS.ForExc
import HandS.Wide
import HandS.IsInst
import HandS.Gcd
import HandS.Defaults
import HandS.MakeKw
import HandS.MakeKwOnly
import HandS.Conv
import HandS.Star
import HandS.More
import HandS.FStr
import HandS.NoneIn
import HandS.Style
import HandS.OwnEq
import KE.KStateDown
import HandS.Head0
import HandS.Head1
import HandS.Head2
import HandS.Head3
import HandS.HeadEnd
import HandS.HeadHook1
import HandS.HeadHook2
import PyProof.ReprRoads
import PySem.Challenge.RW_wordprices_k08_ratios_in_order
set_option Elab.async false
set_option linter.all false
set_option maxRecDepth 100000
set_option maxHeartbeats 4000000
namespace Wp
open PySem L2
/-! ### heaps -/
/-- all that was tracked is as it was -/
def Ext (H H' : Hp) : Prop := ∀ b, H b ≠ none → H' b = H b
def ExtBut (p : Addr) (H H' : Hp) : Prop := ∀ b, H b ≠ none → b ≠ p → H' b = H b
theorem Ext.refl (H : Hp) : Ext H H := fun _ _ => rfl
theorem Ext.trans {H H1 H2 : Hp} (a : Ext H H1) (b : Ext H1 H2) : Ext H H2 := fun c h => by
  rw [b c (by rw [a c h]; exact h), a c h]
theorem Ext.at {H H' : Hp} {a : Addr} {o : HO} (e : Ext H H') (h : H a = some o) : H' a = some o := by rw [e a (by rw [h]; simp), h]
theorem Ext.free {H H' : Hp} {a : Addr} (e : Ext H H') (h : H' a = none) : H a = none := by
  cases q : H a with
  | none => rfl
  | some o => rw [e.at q] at h; cases h
theorem upd_at {H : Hp} {a : Addr} {o : HO} : upd H a o a = some o := upd_same
theorem upd_old {H : Hp} {q b : Addr} {o : HO} (hq : H q = none) (hb : H b ≠ none) : upd H q o b = H b := upd_ne (fun z => hb (by rw [z]; exact hq))
theorem upd_oth {H : Hp} {q b : Addr} {o : HO} (h : b ≠ q) : upd H q o b = H b := upd_ne h
theorem Ext.upd {H : Hp} {q : Addr} {o : HO} (hq : H q = none) : Ext H (upd H q o) := fun _ hb => upd_old hq hb
theorem Ext.upd' {H H' : Hp} {q : Addr} {o : HO} (e : Ext H H') (hq : H' q = none) : Ext H (L2.upd H' q o) := e.trans (Ext.upd hq)
theorem Ext.but {H H' : Hp} {p : Addr} (e : Ext H H') : ExtBut p H H' := fun b h _ => e b h
theorem ExtBut.trans {p : Addr} {H H1 H2 : Hp} (a : ExtBut p H H1) (b : ExtBut p H1 H2) : ExtBut p H H2 := fun c h n => by
  rw [b c (by rw [a c h n]; exact h) n, a c h n]
theorem ExtBut.at {p : Addr} {H H' : Hp} {a : Addr} {o : HO} (e : ExtBut p H H') (h : H a = some o) (n : a ≠ p) : H' a = some o := by rw [e a (by rw [h]; simp) n, h]
theorem ExtBut.upd {H H' : Hp} {p : Addr} {o : HO} (e : ExtBut p H H') : ExtBut p H (L2.upd H' p o) := fun b h n => by rw [upd_ne n, e b h n]
/-! ### own functions -/
/-- a def of the module, called by positions -/
def GF (P : Program) (w : World) (K : PySem.W.Frag) (mg : Str → Option Value) (base : Heap) (k : Nat) (x : Str) (sp : Sp) : Prop :=
  ∃ f, mg x = some (.ref f) ∧ PySem.W.keepIn K (.ref f) = true ∧ FnR P w K mg base (L2.CX P w) k f sp
/-- a class of the module, its __init__ by positions -/
def GC (P : Program) (w : World) (K : PySem.W.Frag) (mg : Str → Option Value) (base : Heap) (k : Nat) (x : Str) (C : Addr) (sp : Sp) : Prop :=
  ∃ f, mg x = some (.ref C) ∧ Mk K C f ∧ FnR P w K mg base (L2.CX P w) k f sp
/-- a method of the class at C, by positions (self first) -/
def GM (P : Program) (w : World) (K : PySem.W.Frag) (mg : Str → Option Value) (base : Heap) (k : Nat) (C : Addr) (m : Str) (sp : Sp) : Prop :=
  ∃ f, Cls K C ∧ Meth K C m f ∧ FnR P w K mg base (L2.CX P w) k f sp
section
variable {P : Program} {w : World} {K : PySem.W.Frag} {mg : Str → Option Value} {base : Heap} {CX : CXT} {k : Nat} {f : Addr} {fd : FuncData} {ps : List Str} {sp sp' : Sp}
theorem fnR_of (F : FnOk P w K mg base CX k f fd ps sp) (hb : Binds K fd ps []) : FnR P w K mg base CX k f sp := fun A outer s H us vs Q E hr e0 r h => by
  have hl := F.len _ _ _ _ h
  refine F.run A outer s H ⟨us, []⟩ us vs Q E hr e0 ?_ r h
  have q := hb s us (e0.mod.kin.keeps fun b o e => (e0.bs b o e).1) (by rw [List.append_nil, ← r.length]; exact hl)
  rw [List.append_nil] at q
  exact q
theorem fnR_dfl {dvs : List V} {ds : List Value} (F : FnOk P w K mg base CX k f fd ps sp) (hb : Binds K fd ps ds) (hd : Vals dvs ds) : FnR P w K mg base CX k f (fun vs H Q E => sp (vs ++ dvs) H Q E) := fun A outer s H us vs Q E hr e0 r h => by
  have hl := F.len _ _ _ _ h
  have r2 := r.append hd
  exact F.run A outer s H ⟨us, []⟩ (us ++ ds) (vs ++ dvs) Q E hr e0 (hb s us (e0.mod.kin.keeps fun b o e => (e0.bs b o e).1) (by rw [← r2.length]; exact hl)) r2 h
theorem FnR.or (F : FnR P w K mg base CX k f sp) (F' : FnR P w K mg base CX k f sp') : FnR P w K mg base CX k f (fun vs H Q E => sp vs H Q E ∨ sp' vs H Q E) := fun A outer s H us vs Q E hr e0 r h => by
  rcases h with h | h
  · exact F A outer s H us vs Q E hr e0 r h
  · exact F' A outer s H us vs Q E hr e0 r h
end
def tFn (sp : Sp) (E : XK) (t : TA) : TE := fun σ H Q => t σ H fun vs H1 => sp vs H1 Q E
def rMk (C : Addr) (sp : Sp) (E : XK) : List V → Hp → VK → Prop := fun vs H Q => ∀ x dx, H x = none → H dx = none → dx ≠ x →
  sp (.ref x :: vs) (upd (upd H dx (.own x)) x (.ins C dx [])) (fun v H2 => v = .non ∧ Q (.ref x) H2) E
def tMkU (C : Addr) (sp : Sp) (E : XK) (t : TA) : TE := fun σ H Q => t σ H fun vs H1 => rMk C sp E vs H1 Q
def insOf (C : Addr) (H : Hp) (x : V) (m : Str) : Prop := match x with
  | .ref a => (match H a with
    | some (.ins C' _ fs) => C' = C ∧ fs.lookup m = none
    | _ => False)
  | _ => False
def tMtU (C : Addr) (m : Str) (sp : Sp) (E : XK) (ta : TE) (t : TA) : TE := fun σ H Q => ta σ H fun x H1 => insOf C H1 x m ∧ t σ H1 fun vs H2 => sp (x :: vs) H2 Q E
theorem insOf_get {C : Addr} {H : Hp} {x : V} {m : Str} (h : insOf C H x m) : ∃ a dx fs, x = .ref a ∧ H a = some (.ins C dx fs) ∧ fs.lookup m = none := by
  unfold insOf at h
  split at h
  · split at h
    · obtain ⟨rfl, h⟩ := h
      exact ⟨_, _, _, rfl, by assumption, h⟩
    · exact h.elim
  · exact h.elim
section
variable {X : Cx} {k : Nat} {x m : Str} {C : Addr} {sp : Sp} {E : XK} {e o : Expr} {es : List Expr} {t : TA} {ta te : TE} {p pos apos : Pos}
theorem pe_fn (g : GF X.prog X.w X.K X.mg X.base k x sp) (hr : Room k X.A) (hx : Passes (L2.CX X.prog X.w) X E) (ha : PA X (e :: es) t) (hg : Gl X x := by rfl) (hdb : (x == ("__debug__" : Str)) = false := by decide)
    (he : starEach (e :: es) X.env = (false, eval e X.env) :: starEach es X.env := by rfl) (hpl : (backTo pos (starEach es X.env)).any (·.1) = false := by rfl) :
    PE X (.Call (.Name x p) (e :: es) [] pos) (tFn sp E t) := by
  obtain ⟨f, hm, hk, F⟩ := g
  refine ⟨fun pins s σ H Q I h => ?_⟩
  refine PySem.wpAny_Call_Name_kw (ld_glob I hg hm ?_ hdb)
  refine PySem.W.callWith_K (h₀ := X.base) I.ok.mod.kin hk (thn (ha.run pos pins s σ H _ I h) fun us s1 ⟨vs, H1, I1, r, q⟩ => ⟨I1.kIn, ?_⟩) he hpl
  exact wpAny_call (run_fnR F hr hx I1 r q)
theorem pe_mk (g : GC X.prog X.w X.K X.mg X.base k x C sp) (hr : Room (k + 1) X.A) (hx : Passes (L2.CX X.prog X.w) X E) (ha : PA X (e :: es) t) (hg : Gl X x := by rfl) (hdb : (x == ("__debug__" : Str)) = false := by decide)
    (he : starEach (e :: es) X.env = (false, eval e X.env) :: starEach es X.env := by rfl) (hpl : (backTo pos (starEach es X.env)).any (·.1) = false := by rfl) :
    PE X (.Call (.Name x p) (e :: es) [] pos) (tMkU C sp E t) := by
  obtain ⟨f, hm, M, F⟩ := g
  exact StX.pe_makeR M F hr hg hm hx ha hdb he hpl
end
/-! ### operators, by values -/
abbrev big (i : Int) : Prop := i.natAbs < 2 ^ 4000
def CMulU (i j : Int) : Prop := CMul i j ∨ (big i ∧ big j)
def CFd (_ j : Int) : Prop := j ≠ 0 ∧ j.natAbs < 2 ^ 8000
/-- by two ints -/
def r2i (g : Int → Int → Hp → VK → Prop) : R2 := fun x y H Q => match x, y with
  | .int i, .int j => g i j H Q
  | _, _ => False
theorem op_2i {X : Cx} {f : Value → Value → Sem Value} {C : Int → Int → Prop} {g : Int → Int → V} (h : OpR X f (rI C g)) : OpR X f (r2i fun i j H Q => C i j ∧ Q (g i j) H) := by
  intro pins s σ H x y v u Q I rx ry hq
  unfold r2i at hq
  split at hq
  · exact h pins s σ H _ _ v u Q I rx ry ⟨_, _, rfl, rfl, hq.1, hq.2⟩
  · exact hq.elim
theorem op_2i0 {X : Cx} {f : Value → Value → Sem Value} {g : Int → Int → V} (h : OpR X f (rI0 g)) : OpR X f (r2i fun i j H Q => Q (g i j) H) := by
  intro pins s σ H x y v u Q I rx ry hq
  unfold r2i at hq
  split at hq
  · exact h pins s σ H _ _ v u Q I rx ry ⟨_, _, rfl, rfl, hq⟩
  · exact hq.elim
section
variable {X : Cx}
theorem oAdd : OpR X (binaryOp .Add) (r2i fun i j H Q => Q (.int (i + j)) H) := op_2i0 op_add
theorem oSub : OpR X (binaryOp .Sub) (r2i fun i j H Q => Q (.int (i - j)) H) := op_2i0 op_sub
theorem oMul : OpR X (binaryOp .Mult) (r2i fun i j H Q => CMulU i j ∧ Q (.int (i * j)) H) := op_2i (opI fun _ _ _ _ _ _ _ hc q => by
  rcases hc with h | ⟨h1, h2⟩
  · exact PyProof.Rows.mul_int q h.ok
  · exact PyProof.Rows.mul_int q (wide_mul h1 h2 (by decide) (by decide) (by decide)).ok)
def CFp (_ j : Int) : Prop := 0 < j ∧ j.natAbs < 2 ^ 8000
theorem oFdiv : OpR X (binaryOp .FloorDiv) (r2i fun i j H Q => CFp i j ∧ Q (.int (i / j)) H) := op_2i (opI fun i j _ _ _ _ _ hc q => by
  have h1 : (0 : Int) < j := hc.1
  exact PyProof.Rows.floordiv_int (by omega) (by rw [Int.fdiv_eq_ediv_of_nonneg i (by omega)]; exact q) (.inl (PyProof.noPylong_of_log2 (Nat.lt_of_lt_of_le (PySem.Flt.log2_lt_of (by decide) hc.2) (by decide)))))
theorem oMod : OpR X (binaryOp .Mod) (r2i fun i j H Q => 0 < j ∧ Q (.int (i % j)) H) := op_2i op_mod
theorem oFdivN : OpR X (binaryOp .FloorDiv) (r2i fun i j H Q => CFd i j ∧ Q (.int (i.fdiv j)) H) := op_2i (opI fun i j _ _ _ _ _ hc q =>
  PyProof.Rows.floordiv_int hc.1 q (.inl (PyProof.noPylong_of_log2 (Nat.lt_of_lt_of_le (PySem.Flt.log2_lt_of (by decide) hc.2) (by decide)))))
theorem oModN : OpR X (binaryOp .Mod) (r2i fun i j H Q => j ≠ 0 ∧ Q (.int (i.fmod j)) H) := op_2i op_modN
theorem oPow : OpR X (binaryOp .Pow) (r2i fun i j H Q => CPow i j ∧ Q (.int (i ^ j.toNat)) H) := op_2i op_pow
theorem oLt : OpR X (compareOp .Lt) (r2i fun i j H Q => Q (.bl (decide (i < j))) H) := op_2i0 op_lt
theorem oLe : OpR X (compareOp .LtE) (r2i fun i j H Q => Q (.bl (decide (i ≤ j))) H) := op_2i0 op_le
theorem oGt : OpR X (compareOp .Gt) (r2i fun i j H Q => Q (.bl (decide (j < i))) H) := op_2i0 op_gt
theorem oGe : OpR X (compareOp .GtE) (r2i fun i j H Q => Q (.bl (decide (j ≤ i))) H) := op_2i0 op_ge
end
theorem cfp {i j : Int} (h : 0 < j) (h2 : j < 18446744073709551616) : CFp i j := ⟨h, Nat.lt_of_lt_of_le (show j.natAbs < 2 ^ 64 by omega) (Nat.pow_le_pow_right (by decide) (by decide))⟩
theorem cmulL {i j : Int} (h : -18446744073709551616 < i) (h2 : i < 18446744073709551616) : CMulU i j := .inl (.inl ⟨h, h2⟩)
theorem cmulR {i j : Int} (h : -18446744073709551616 < j) (h2 : j < 18446744073709551616) : CMulU i j := .inl (.inr ⟨h, h2⟩)
theorem cpow {i j : Int} (h : -18446744073709551616 < i) (h2 : i < 18446744073709551616) (h3 : 0 ≤ j) (h4 : j ≤ 1000000) : CPow i j := ⟨h3, h4, by omega⟩
theorem cpow2 {i j : Int} (h : -18446744073709551616 < i ∧ i < 18446744073709551616) (h3 : 0 ≤ j) (h4 : j ≤ 1000000) : CPow i j := ⟨h3, h4, by omega⟩
theorem great_nn {c : Int} {e : Bool} (h : 1000000000000000000 ≤ if c < 0 then -c else c) : 0 ≤ 2 * ((if c < 0 then -c else c) - 1000000000000000000) + if e = true then 1 else 0 := by
  have : (0 : Int) ≤ if e = true then 1 else 0 := by split <;> decide
  omega
/-! ### sequences that are tracked -/
def rdL (H : Hp) (p : Addr) : Option (List V) := match H p with
  | some (.lst xs) => some xs
  | some (.frz _ (.lst xs)) => some xs
  | _ => none
def rdT (H : Hp) (p : Addr) : Option (List V) := match H p with
  | some (.tup xs) => some xs
  | some (.frz _ (.tup xs)) => some xs
  | _ => none
def rdS (H : Hp) (p : Addr) : Option (List V) := match H p with
  | some (.lst xs) => some xs
  | some (.frz _ (.lst xs)) => some xs
  | some (.tup xs) => some xs
  | some (.frz _ (.tup xs)) => some xs
  | _ => none
theorem rdL_sq {K : PySem.W.Frag} {H : Hp} {p : Addr} {xs : List V} (h : rdL H p = some xs) : SqL K H p xs := by
  unfold rdL at h
  split at h
  · cases h; exact .inl (.inl (by assumption))
  · cases h; exact .inl (.inr ⟨_, by assumption⟩)
  · cases h
theorem rdS_sq {K : PySem.W.Frag} {H : Hp} {p : Addr} {xs : List V} (h : rdS H p = some xs) : SqL K H p xs ∨ SqT K H p xs := by
  unfold rdS at h
  split at h
  · cases h; exact .inl (.inl (.inl (by assumption)))
  · cases h; exact .inl (.inl (.inr ⟨_, by assumption⟩))
  · cases h; exact .inr (.inl (.inl (by assumption)))
  · cases h; exact .inr (.inl (.inr ⟨_, by assumption⟩))
  · cases h
/-- x[i] -/
def rIxU : R2 := fun x y H Q => match x, y with
  | .ref p, .int i => (match rdS H p with
    | some xs => (match atI xs i with
      | some v => Q v H
      | none => False)
    | none => False)
  | .str z, .int i => z.length ≤ sizeLine ∧ (match atI z.cps.toList i with
    | some c => Q (.str ⟨#[c]⟩) H
    | none => False)
  | _, _ => False
theorem oIx {X : Cx} : IxR X rIxU := by
  intro value slice pins s σ H x y v u Q I rx ry h hs
  unfold rIxU at h
  split at h
  · split at h
    · split at h
      · rename_i h1 _ _ h2
        rcases rdS_sq (K := X.K) h1 with q | q
        · exact ix_list value slice pins s σ H _ _ v u Q I rx ry ⟨_, _, _, _, rfl, rfl, q, h2, h⟩ hs
        · exact ix_tup value slice pins s σ H _ _ v u Q I rx ry ⟨_, _, _, _, rfl, rfl, q, h2, h⟩ hs
      · exact h.elim
    · exact h.elim
  · obtain ⟨hz, h⟩ := h
    split at h
    · rename_i h2
      exact ix_str value slice pins s σ H _ _ v u Q I rx ry ⟨_, _, _, rfl, rfl, hz, h2, h⟩ hs
    · exact h.elim
  · exact h.elim
/-- o[i] = v of a list -/
def rSetU : V → V → V → Hp → (Hp → Prop) → Prop := fun o i v H Q => match o, i with
  | .ref p, .int k => (match H p with
    | some (.lst xs) => (match ixN xs.length k with
      | some j => Q (upd H p (.lst (xs.set j v)))
      | none => False)
    | _ => False)
  | _, _ => False
theorem oSet {X : Cx} : PSet X rSetU := by
  intro pins s σ H o i v ov iv u Q I ro ri rv h
  unfold rSetU at h
  split at h
  · split at h
    · split at h
      · exact set_list pins s σ H _ _ v ov iv u Q I ro ri rv ⟨_, _, _, _, rfl, rfl, by assumption, by assumption, h⟩
      · exact h.elim
    · exact h.elim
  · exact h.elim
/-! ### deep data -/
mutual
def toD (H : Hp) : Nat → V → Option PyData
  | _, .non => some .none
  | _, .bl b => some (.bool b)
  | _, .int i => some (.int i)
  | _, .str x => if PyData.strOk x = true then some (.str x) else none
  | n + 1, .ref p => (match H p with
    | some (.lst xs) => (toDs H n xs).map .list
    | some (.frz _ (.lst xs)) => (toDs H n xs).map .list
    | some (.tup xs) => (toDs H n xs).map .tuple
    | some (.frz _ (.tup xs)) => (toDs H n xs).map .tuple
    | _ => none)
  | _, _ => none
termination_by n _ => (n, 0)
def toDs (H : Hp) : Nat → List V → Option (List PyData)
  | _, [] => some []
  | n, v :: vs => (match toD H n v, toDs H n vs with
    | some d, some ds => some (d :: ds)
    | _, _ => none)
termination_by n vs => (n, vs.length + 1)
end
theorem toDs_ok {K : PySem.W.Frag} {H : Hp} {n : Nat} (ih : ∀ v d, toD H n v = some d → Dp K H v d ∧ PyData.canLay0 d = true ∧ PyData.depth d ≤ n) :
    ∀ vs ds, toDs H n vs = some ds → DpAll K H vs ds ∧ PyData.canLayAll0 ds = true ∧ PyData.depthAll ds ≤ n
  | [], ds, h => by
    rw [toDs] at h
    cases h
    exact ⟨.nil, rfl, Nat.zero_le _⟩
  | v :: vs, ds, h => by
    rw [toDs] at h
    split at h
    · rename_i d ds' h1 h2
      cases h
      obtain ⟨a1, a2, a3⟩ := ih v d h1
      obtain ⟨b1, b2, b3⟩ := toDs_ok ih vs ds' h2
      refine ⟨.cons a1 b1, ?_, ?_⟩
      · rw [PyData.canLayAll0, a2, b2] <;> rfl
      · rw [PyData.depthAll]; exact Nat.max_le.mpr ⟨a3, b3⟩
    · cases h
theorem toD_flat {K : PySem.W.Frag} {H : Hp} {n : Nat} {v : V} {d : PyData} (hv : ∀ p, v ≠ .ref p) (h : toD H n v = some d) : Dp K H v d ∧ PyData.canLay0 d = true ∧ PyData.depth d ≤ n := by
  cases v with
  | non => simp only [toD, Option.some.injEq] at h; subst h; exact ⟨.non, rfl, Nat.zero_le _⟩
  | bl b => simp only [toD, Option.some.injEq] at h; subst h; exact ⟨.bl _, rfl, Nat.zero_le _⟩
  | int i => simp only [toD, Option.some.injEq] at h; subst h; exact ⟨.int _, rfl, Nat.zero_le _⟩
  | str x =>
    simp only [toD] at h
    split at h
    · cases h
      rename_i hx
      refine ⟨.str _, ?_, Nat.zero_le _⟩
      rw [PyData.canLay0]; exact hx
    · cases h
  | ref p => exact absurd rfl (hv p)
  | byt b => simp only [toD] at h; cases h
  | flt b => simp only [toD] at h; cases h
  | ty b => simp only [toD] at h; cases h
theorem toD_ok {K : PySem.W.Frag} {H : Hp} : ∀ (n : Nat) (v : V) (d : PyData), toD H n v = some d → Dp K H v d ∧ PyData.canLay0 d = true ∧ PyData.depth d ≤ n := by
  intro n
  induction n with
  | zero =>
    intro v d h
    by_cases hv : ∃ p, v = .ref p
    · obtain ⟨p, rfl⟩ := hv
      simp only [toD] at h; cases h
    · exact toD_flat (fun p z => hv ⟨p, z⟩) h
  | succ n ih =>
    intro v d h
    by_cases hv : ∃ p, v = .ref p
    · obtain ⟨p, rfl⟩ := hv
      simp only [toD] at h
      split at h
      · rename_i xs hp
        cases q : toDs H n xs with
        | none => rw [q] at h; cases h
        | some ds =>
          rw [q] at h; cases h
          obtain ⟨b1, b2, b3⟩ := toDs_ok ih xs ds q
          exact ⟨.lst (.inl (.inl hp)) b1, by rw [PyData.canLay0]; exact b2, by rw [PyData.depth]; exact Nat.succ_le_succ b3⟩
      · rename_i o xs hp
        cases q : toDs H n xs with
        | none => rw [q] at h; cases h
        | some ds =>
          rw [q] at h; cases h
          obtain ⟨b1, b2, b3⟩ := toDs_ok ih xs ds q
          exact ⟨.lst (.inl (.inr ⟨_, hp⟩)) b1, by rw [PyData.canLay0]; exact b2, by rw [PyData.depth]; exact Nat.succ_le_succ b3⟩
      · rename_i xs hp
        cases q : toDs H n xs with
        | none => rw [q] at h; cases h
        | some ds =>
          rw [q] at h; cases h
          obtain ⟨b1, b2, b3⟩ := toDs_ok ih xs ds q
          exact ⟨.tup (.inl (.inl hp)) b1, by rw [PyData.canLay0]; exact b2, by rw [PyData.depth]; exact Nat.succ_le_succ b3⟩
      · rename_i o xs hp
        cases q : toDs H n xs with
        | none => rw [q] at h; cases h
        | some ds =>
          rw [q] at h; cases h
          obtain ⟨b1, b2, b3⟩ := toDs_ok ih xs ds q
          exact ⟨.tup (.inl (.inr ⟨_, hp⟩)) b1, by rw [PyData.canLay0]; exact b2, by rw [PyData.depth]; exact Nat.succ_le_succ b3⟩
      · cases h
    · exact toD_flat (fun p z => hv ⟨p, z⟩) h
/-- == of data -/
def rEqU : R2 := fun x y H Q => match toD H 8 x, toD H 8 y with
  | some d, some e => Q (.bl (PyData.eqv d e)) H
  | _, _ => False
def rNeU : R2 := fun x y H Q => match toD H 8 x, toD H 8 y with
  | some d, some e => Q (.bl (!PyData.eqv d e)) H
  | _, _ => False
theorem shaped_of {d : PyData} (h : PyData.canLay0 d = true) (h2 : PyData.depth d ≤ 8) : SeqAt.shaped d = true := by
  unfold SeqAt.shaped
  rw [h, Bool.true_and]
  exact decide_eq_true (Nat.le_trans h2 (by decide))
theorem oEq {X : Cx} (hu : X.A.units + 64 < cLine) : OpR X (compareOp .Eq) rEqU := by
  intro pins s σ H x y v u Q I rx ry h
  unfold rEqU at h
  split at h
  · rename_i d e h1 h2
    obtain ⟨a1, a2, a3⟩ := toD_ok (K := X.K) _ _ _ h1
    obtain ⟨b1, b2, b3⟩ := toD_ok (K := X.K) _ _ _ h2
    exact op_eqD hu pins s σ H x y v u Q I rx ry ⟨d, e, a1, b1, shaped_of a2 a3, shaped_of b2 b3, h⟩
  · exact h.elim
theorem oNe {X : Cx} (hu : X.A.units + 64 < cLine) : OpR X (compareOp .NotEq) rNeU := by
  intro pins s σ H x y v u Q I rx ry h
  unfold rNeU at h
  split at h
  · rename_i d e h1 h2
    obtain ⟨a1, a2, a3⟩ := toD_ok (K := X.K) _ _ _ h1
    obtain ⟨b1, b2, b3⟩ := toD_ok (K := X.K) _ _ _ h2
    exact op_neD hu pins s σ H x y v u Q I rx ry ⟨d, e, a1, b1, shaped_of a2 a3, shaped_of b2 b3, h⟩
  · exact h.elim
/-! ### more built-ins -/
def rLenU : List V → Hp → VK → Prop := fun vs H Q => match vs with
  | [.str z] => z.length ≤ sizeLine ∧ Q (.int z.length) H
  | [.ref p] => (match rdS H p with
    | some xs => Q (.int xs.length) H
    | none => False)
  | _ => False
theorem cLen {X : Cx} : CallR X (.builtin "len") rLenU := by
  intro pins s σ H xs us Q I r h
  unfold rLenU at h
  split at h
  · exact call_len pins s σ H _ us Q I r ⟨_, _, rfl, ⟨h.1, rfl⟩, h.2⟩
  · split at h
    · rename_i h1
      rcases rdS_sq (K := X.K) h1 with q | q
      · exact call_len pins s σ H _ us Q I r ⟨_, _, rfl, .inl ⟨_, q, rfl⟩, h⟩
      · exact call_len pins s σ H _ us Q I r ⟨_, _, rfl, .inr ⟨_, q, rfl⟩, h⟩
    · exact h.elim
  · exact h.elim
def rIntU : List V → Hp → VK → Prop := fun vs H Q => match vs with
  | [.int i] => Q (.int i) H
  | [.bl b] => Q (.int (if b then 1 else 0)) H
  | _ => False
theorem cInt {X : Cx} : CallR X (.type "int") rIntU := by
  intro pins s σ H xs us Q I r h
  unfold rIntU at h
  split at h
  · exact call_int1 pins s σ H _ us Q I r (.inl ⟨_, rfl, h⟩)
  · exact call_int1 pins s σ H _ us Q I r (.inr ⟨_, rfl, h⟩)
  · exact h.elim
def rAbsU : List V → Hp → VK → Prop := fun vs H Q => match vs with
  | [.int i] => Q (.int (if i < 0 then -i else i)) H
  | _ => False
theorem cAbs {X : Cx} : CallR X (.builtin "abs") rAbsU := by
  intro pins s σ H xs us Q I r h
  unfold rAbsU at h
  split at h
  · exact call_abs pins s σ H _ us Q I r ⟨_, rfl, h⟩
  · exact h.elim
def rBoolU : List V → Hp → VK → Prop := fun vs H Q => match vs with
  | [.int i] => Q (.bl (i != 0)) H
  | [.bl b] => Q (.bl b) H
  | _ => False
theorem cBool {X : Cx} : CallR X (.type "bool") rBoolU := by
  intro pins s σ H xs us Q I r h
  unfold rBoolU at h
  split at h
  · exact call_bool1 pins s σ H _ us Q I r (.inl ⟨_, rfl, h⟩)
  · exact call_bool1 pins s σ H _ us Q I r (.inr ⟨_, rfl, h⟩)
  · exact h.elim
/-- {e} in an f-string -/
def rFmt : V → Hp → VK → Prop := fun x H Q => match x with
  | .str y => y.length ≤ sizeLine ∧ Q (.str y) H
  | .int i => i.natAbs.log2 < 1920 ∧ Q (.str (toString i)) H
  | _ => False
def tFmtU (te : TE) : TE := fun σ H Q => te σ H fun x H1 => rFmt x H1 Q
theorem pe_fmtU {X : Cx} {e : Expr} {te : TE} {pos : Pos} (he : PE X e te) : PE X (.FormattedValue e (-1) none pos) (tFmtU te) := by
  refine ⟨fun pins s σ H Q I h => ?_⟩
  refine wpAny_FormattedValue_plain (thn (he.run pins s σ H _ I h) fun v s1 hv => ?_)
  obtain ⟨x, H1, I1, r1, q⟩ := hv
  have q : rFmt x H1 Q := q
  unfold rFmt at q
  split at q
  · obtain ⟨t, rfl⟩ := r1
    exact wpAny_formatField_str ⟨.str _, H1, I1, ⟨t, rfl⟩, q.2⟩ ⟨.str _, H1, I1.tok _, ⟨_, rfl⟩, q.2⟩ q.1
  · obtain ⟨t, rfl⟩ := r1
    exact PySem.wpAny_formatField_int q.1 ⟨.str _, H1, I1.tok _, ⟨_, rfl⟩, q.2⟩
  · exact q.elim
/-- the pieces of an f-string, one behind the other -/
def rJs (acc : Str) (x : V) (k : Str → Prop) : Prop := match x with
  | .str y => (acc ++ y).length ≤ sizeLine ∧ k (acc ++ y)
  | _ => False
def tJsU : List TE → Str → St → Hp → (Str → Hp → Prop) → Prop
  | [], acc, _, H, Q => Q acc H
  | t :: ts, acc, σ, H, Q => t σ H fun x H1 => rJs acc x fun acc' => tJsU ts acc' σ H1 Q
theorem pe_joinedU {X : Cx} {v1 v2 : Expr} {rest : List Expr} {ts : List TE} {pos : Pos} (h : PJ X (v1 :: v2 :: rest) ts) : PE X (.JoinedStr (v1 :: v2 :: rest) pos) (fun σ H Q => tJsU ts Str.empty σ H fun out H1 => Q (.str out) H1) := by
  have conv : ∀ {es : List Expr} {ts : List TE}, PJ X es ts → ∃ us : List TE, PJ X es us ∧ ∀ acc σ H Q, tJsU ts acc σ H Q → tJs us acc σ H Q := by
    intro es ts h
    induction h with
    | nil => exact ⟨[], .nil, fun acc σ H Q h => h⟩
    | @cons e t es ts he r ih =>
      obtain ⟨us, hu, hc⟩ := ih
      refine ⟨(fun σ H Q => ∃ (acc : Str) (k : Str → Hp → Prop), t σ H (fun x H1 => rJs acc x fun acc' => k acc' H1) ∧ ∀ y H1, (acc ++ y).length ≤ sizeLine → k (acc ++ y) H1 → Q (.str y) H1) :: us, .cons ⟨fun pins s σ H Q I h => ?_⟩ hu, fun acc σ H Q h => ?_⟩
      · obtain ⟨acc, k, h, hk⟩ := h
        refine thn (he.run pins s σ H _ I h) fun v s1 hv => ?_
        obtain ⟨x, H1, I1, r1, q⟩ := hv
        have q : rJs acc x fun acc' => k acc' H1 := q
        unfold rJs at q
        split at q
        · exact ⟨_, H1, I1, r1, hk _ _ q.1 q.2⟩
        · exact q.elim
      · exact ⟨acc, fun acc' H1 => tJsU ts acc' σ H1 Q, h, fun y H1 hl hk => ⟨y, rfl, hl, hc _ _ _ _ hk⟩⟩
  obtain ⟨us, hu, hc⟩ := conv h
  exact ⟨fun pins s σ H Q I h => (pe_joined hu).run pins s σ H Q I (hc _ _ _ _ h)⟩
/-- e.f of an own instance -/
def rFld (K : PySem.W.Frag) (f : Str) : V → Hp → VK → Prop := fun x H Q => match x with
  | .ref a => (match H a with
    | some (.ins C _ fs) => Cls K C ∧ NoAttr K C f ∧ (match fs.lookup f with
      | some v => Q v H
      | none => False)
    | _ => False)
  | _ => False
def tFldU (K : PySem.W.Frag) (f : Str) (ta : TE) : TE := fun σ H Q => ta σ H fun x H1 => rFld K f x H1 Q
theorem rFld_get {K : PySem.W.Frag} {f : Str} {x : V} {H : Hp} {Q : VK} (h : rFld K f x H Q) : ∃ a C dx fs v, x = .ref a ∧ H a = some (.ins C dx fs) ∧ Cls K C ∧ NoAttr K C f ∧ fs.lookup f = some v ∧ Q v H := by
  unfold rFld at h
  split at h
  · split at h
    · obtain ⟨c, n, h⟩ := h
      split at h
      · exact ⟨_, _, _, _, _, rfl, by assumption, c, n, by assumption, h⟩
      · exact h.elim
    · exact h.elim
  · exact h.elim
theorem pe_fldU {X : Cx} {K : PySem.W.Frag} {e : Expr} {f : Str} {pos : Pos} {ta : TE} (he : PE X e ta) (hK : X.K = K := by rfl) (hb : attributeBase e f X.env (eval e X.env) = eval e X.env := by rfl) : PE X (.Attribute e f pos) (tFldU K f ta) := by
  subst hK
  refine ⟨fun pins s σ H Q I h => ?_⟩
  refine attr_of hb (thn (he.run pins s σ H _ I h) fun u s1 ⟨x, H1, I1, rx, q⟩ => ?_)
  obtain ⟨a, C, dx, fs, v, rfl, ea, c, n, l, q⟩ := rFld_get q
  obtain rfl : u = Value.ref a := rx
  exact getattr_ok I1 ea c n l fun u' s2 I2 ru => ⟨v, H1, I2, ru, q⟩
/-- o.f = e -/
def rSetF (K : PySem.W.Frag) (f : Str) : V → V → Hp → (Hp → Prop) → Prop := fun x y H R => match x with
  | .ref a => (match H a with
    | some (.ins C dx fs) => Cls K C ∧ NoAttr K C f ∧ fs.length < 1000 ∧ R (upd H a (.ins C dx (putF f y fs)))
    | _ => False)
  | _ => False
def tSetF (K : PySem.W.Frag) (f : Str) (ta tv : TE) : TS := fun D σ H => tv σ H fun y H1 => ta σ H1 fun x H2 => rSetF K f x y H2 fun H3 => D.nx σ H3
theorem ps_fldU {X : Cx} {K : PySem.W.Frag} {o value : Expr} {f : Str} {pos pos' : Pos} {ta tv : TE} (ha : PE X o ta) (hv : PE X value tv) (hK : X.K = K := by rfl) (hs : swapsWith value (some (.Attribute o f pos')) pos.line X.env = pure false := by rfl) : PS X (.Assign [.Attribute o f pos'] value pos) (tSetF K f ta tv) := by
  subst hK
  refine ⟨fun pins s σ H D I h => ?_⟩
  refine plainObj_wpAny_Assign_Attribute (thn (hv.run pins s σ H _ I h) fun u s1 ⟨y, H1, I1, ry, q⟩ => thn (ha.run pins s1 σ H1 _ I1 q) fun ov s2 ⟨x, H2, I2, rx, q2⟩ => ?_) hs
  have q2 : rSetF X.K f x y H2 fun H3 => D.nx σ H3 := q2
  unfold rSetF at q2
  split at q2
  · split at q2
    · obtain ⟨c, n, l, q2⟩ := q2
      rename_i ea
      obtain rfl : ov = Value.ref _ := rx
      exact setattr_ok I2 ea c n l ry fun s3 I3 => ⟨σ, _, I3, q2⟩
    · exact q2.elim
  · exact q2.elim
/-! ### a tuple or a list unpacked -/
def rUnp (n : Nat) (v : V) (H : Hp) (k : List V → Prop) : Prop := match v with
  | .ref p => (match H p with
    | some (.tup xs) => xs.length = n ∧ k xs
    | some (.lst xs) => xs.length = n ∧ k xs
    | _ => False)
  | _ => False
def gUnpU (n : Nat) (t : TGs) : TG := fun v σ H Q => rUnp n v H fun xs => t xs σ H Q
theorem pg_unpU {X : Cx} {es : List Expr} {k : Nat} {pos : Pos} {n : Nat} {t : TGs} (hc : X.calm = true) (h : PGs X es t) (hn : (assignEach es X.env).length = n := by rfl) (hst : (assignEach es X.env).findIdx? (·.1) = none := by rfl) : PG X (.Tuple es k pos) (gUnpU n t) := by
  refine ⟨fun pins s σ H v u Q I r hw => ?_⟩
  have hw : rUnp n v H fun xs => t xs σ H Q := hw
  unfold rUnp at hw
  split at hw
  · split at hw
    · rename_i e
      exact (pg_tup (k := k) (pos := pos) hc h hn hst).run pins s σ H _ u Q I r ⟨_, _, rfl, SqT.of e, hw.1, hw.2⟩
    · rename_i e
      exact (pg_unl (k := k) (pos := pos) hc h hn hst).run pins s σ H _ u Q I r ⟨_, _, rfl, SqL.of e, hw.1, hw.2⟩
    · exact hw.elim
  · exact hw.elim
/-! ### what a reading comes to -/
section
variable {σ : St} {H : Hp} {Q : VK} {D : Ends}
def kB (k : Bool → Hp → Prop) : VK := fun x H => match x with
  | .bl b => k b H
  | _ => False
theorem e_test {te : TE} {k : Bool → Hp → Prop} (h : te σ H (kB k)) (m : ∀ Q Q' : VK, (∀ v H, Q v H → Q' v H) → te σ H Q → te σ H Q') : tTest te σ H k := by
  refine m _ _ (fun v H' q => ?_) h
  unfold kB at q
  split at q
  · exact ⟨_, rfl, q⟩
  · exact q.elim
theorem e_bl {c : Bool} {k : Bool → Prop} : (∃ d, V.bl c = .bl d ∧ k d) = k c := by
  apply propext; constructor
  · rintro ⟨d, h, q⟩; cases h; exact q
  · intro q; exact ⟨c, rfl, q⟩
theorem e_var {i : Nat} {v : V} (h : σ[i]? = some (some v)) : tVar i σ H Q = Q v H := by
  apply propext; constructor
  · rintro ⟨a, e, q⟩; rw [h] at e; cases e; exact q
  · intro q; exact ⟨v, h, q⟩
theorem e_v0 {v : V} {r : St} : tVar 0 (some v :: r) H Q = Q v H := e_var rfl
theorem e_v1 {v : V} {a : Option V} {r : St} : tVar 1 (a :: some v :: r) H Q = Q v H := e_var rfl
theorem e_v2 {v : V} {a b : Option V} {r : St} : tVar 2 (a :: b :: some v :: r) H Q = Q v H := e_var rfl
theorem e_v3 {v : V} {a b c : Option V} {r : St} : tVar 3 (a :: b :: c :: some v :: r) H Q = Q v H := e_var rfl
theorem e_v4 {v : V} {a b c d : Option V} {r : St} : tVar 4 (a :: b :: c :: d :: some v :: r) H Q = Q v H := e_var rfl
theorem e_vs {i : Nat} {a : Option V} {r : St} : tVar (i + 1) (a :: r) H Q = tVar i r H Q := rfl
theorem e_set0 {a : Option V} {v : Option V} {r : St} : List.set (a :: r) 0 v = v :: r := rfl
theorem e_setS {i : Nat} {a : Option V} {v : Option V} {r : St} : List.set (a :: r) (i + 1) v = a :: List.set r i v := rfl
theorem at0 {α : Type} {a : α} {r : List α} : atI (a :: r) 0 = some a := by
  unfold atI ixN
  rw [if_pos (Int.le_refl 0), if_pos (by simp only [List.length_cons]; omega)] <;> rfl
theorem at1 {α : Type} {a b : α} {r : List α} : atI (a :: b :: r) 1 = some b := by
  unfold atI ixN
  rw [if_pos (by decide), if_pos (by simp only [List.length_cons]; omega)] <;> rfl
theorem at2 {α : Type} {a b c : α} {r : List α} : atI (a :: b :: c :: r) 2 = some c := by
  unfold atI ixN
  rw [if_pos (by decide), if_pos (by simp only [List.length_cons]; omega)] <;> rfl
theorem atN {α : Type} {l : List α} {i : Int} {v : α} (h0 : 0 ≤ i) (h : l[i.toNat]? = some v) : atI l i = some v := by
  have e : i = ((i.toNat : Nat) : Int) := by omega
  rw [e]; exact atI_nat h
theorem cxK {CX : CXT} {P : Program} {w : World} {K : PySem.W.Frag} {mg : Str → Option Value} {base : Heap} {N : List Str} {qual : Str} {scope : Scope} {f : Addr} {cd : Value} {A : Around} {outer : List Env} {s : Shared} {H : Hp} {E : XK} :
    (cxOf CX P w K mg base N qual scope f cd A outer s H E).K = K := rfl
theorem b_ff {A B : Prop} : (if false = true then A else B) = B := if_neg Bool.false_ne_true
theorem b_tt {A B : Prop} : (if true = true then A else B) = A := if_pos rfl
theorem b_fmti {i : Int} : rFmt (.int i) H Q = (i.natAbs.log2 < 1920 ∧ Q (.str (toString i)) H) := rfl
theorem b_fmts {y : Str} : rFmt (.str y) H Q = (y.length ≤ sizeLine ∧ Q (.str y) H) := rfl
theorem b_js {acc y : Str} {k : Str → Prop} : rJs acc (.str y) k = ((acc ++ y).length ≤ sizeLine ∧ k (acc ++ y)) := rfl
theorem b_jsn {acc : Str} {R : Str → Hp → Prop} : tJsU [] acc σ H R = R acc H := rfl
theorem b_jsc {t : TE} {ts : List TE} {acc : Str} {R : Str → Hp → Prop} : tJsU (t :: ts) acc σ H R = t σ H (fun x H1 => rJs acc x fun acc' => tJsU ts acc' σ H1 R) := rfl
theorem b_booli {i : Int} : rBoolU [.int i] H Q = Q (.bl (i != 0)) H := rfl
theorem b_boolb {b : Bool} : rBoolU [.bl b] H Q = Q (.bl b) H := rfl
theorem b_gcons {t : TG} {u : TGs} {x : V} {xs : List V} {R : St → Hp → Prop} : gCons t u (x :: xs) σ H R = t x σ H (fun σ' H' => u xs σ' H' R) := by
  apply propext; constructor
  · rintro ⟨v, r, h, q⟩; cases h; exact q
  · intro q; exact ⟨x, xs, rfl, q⟩
theorem b_gnil {R : St → Hp → Prop} : gNil [] σ H R = R σ H := by
  apply propext; constructor
  · rintro ⟨_, q⟩; exact q
  · intro q; exact ⟨rfl, q⟩
theorem s_unp {n : Nat} {p : Addr} {xs : List V} {k : List V → Prop} (h : H p = some (.tup xs)) (hl : xs.length = n) (q : k xs) : rUnp n (.ref p) H k := by
  unfold rUnp; simp only [h]; exact ⟨hl, q⟩
theorem s_unpL {n : Nat} {p : Addr} {xs : List V} {k : List V → Prop} (h : H p = some (.lst xs)) (hl : xs.length = n) (q : k xs) : rUnp n (.ref p) H k := by
  unfold rUnp; simp only [h]; exact ⟨hl, q⟩
theorem b_2i {g : Int → Int → Hp → VK → Prop} {i j : Int} : r2i g (.int i) (.int j) H Q = g i j H Q := rfl
theorem b_int {i : Int} : rIntU [.int i] H Q = Q (.int i) H := rfl
theorem b_intb {b : Bool} : rIntU [.bl b] H Q = Q (.int (if b then 1 else 0)) H := rfl
theorem b_abs {i : Int} : rAbsU [.int i] H Q = Q (.int (if i < 0 then -i else i)) H := rfl
theorem b_un {g : Int → V} {i : Int} : rU g (.int i) H Q = Q (g i) H := by
  apply propext; constructor
  · rintro ⟨a, h, q⟩; cases h; exact q
  · intro q; exact ⟨i, rfl, q⟩
theorem b_if {c A B : Prop} [Decidable c] : (if decide c = true then A else B) = (if c then A else B) := by
  by_cases h : c
  · rw [if_pos h, if_pos (decide_eq_true h)]
  · rw [if_neg h, if_neg (by simp [h])]
theorem s_ixL {p : Addr} {i : Int} {xs : List V} {v : V} (h : H p = some (.lst xs)) (h2 : atI xs i = some v) (q : Q v H) : rIxU (.ref p) (.int i) H Q := by
  simp only [rIxU, rdS, h, h2]; exact q
theorem s_ixT {p : Addr} {i : Int} {xs : List V} {v : V} (h : H p = some (.tup xs)) (h2 : atI xs i = some v) (q : Q v H) : rIxU (.ref p) (.int i) H Q := by
  simp only [rIxU, rdS, h, h2]; exact q
theorem s_lenL {p : Addr} {xs : List V} (h : H p = some (.lst xs)) (q : Q (.int xs.length) H) : rLenU [.ref p] H Q := by
  simp only [rLenU, rdS, h]; exact q
theorem s_lenT {p : Addr} {xs : List V} (h : H p = some (.tup xs)) (q : Q (.int xs.length) H) : rLenU [.ref p] H Q := by
  simp only [rLenU, rdS, h]; exact q
theorem s_set {p : Addr} {k : Int} {v : V} {xs : List V} {j : Nat} {R : Hp → Prop} (h : H p = some (.lst xs)) (h2 : ixN xs.length k = some j) (q : R (upd H p (.lst (xs.set j v)))) : rSetU (.ref p) (.int k) v H R := by
  simp only [rSetU, h, h2]; exact q
theorem s_eq {x y : V} {d e : PyData} (h : toD H 8 x = some d) (h2 : toD H 8 y = some e) (q : Q (.bl (PyData.eqv d e)) H) : rEqU x y H Q := by
  simp only [rEqU, h, h2]; exact q
theorem s_ne {x y : V} {d e : PyData} (h : toD H 8 x = some d) (h2 : toD H 8 y = some e) (q : Q (.bl (!PyData.eqv d e)) H) : rNeU x y H Q := by
  simp only [rNeU, h, h2]; exact q
theorem g_old {q b : Addr} {o o' : HO} (hq : H q = none) (h : H b = some o') : upd H q o b = some o' := by rw [upd_old hq (by rw [h]; simp), h]
theorem g_oth {q b : Addr} {o o' : HO} (hn : b ≠ q) (h : H b = some o') : upd H q o b = some o' := by rw [upd_ne hn, h]
theorem d_int {n : Nat} {i : Int} : toD H n (.int i) = some (.int i) := by cases n <;> simp only [toD]
theorem d_non {n : Nat} : toD H n .non = some .none := by cases n <;> simp only [toD]
theorem d_bl {n : Nat} {b : Bool} : toD H n (.bl b) = some (.bool b) := by cases n <;> simp only [toD]
theorem d_ints {n : Nat} : ∀ (l : List Int), toDs H n (l.map .int) = some (l.map .int)
  | [] => by simp only [List.map_nil, toDs]
  | a :: l => by simp only [List.map_cons, toDs, d_int, d_ints l]
theorem d_lst {n : Nat} {p : Addr} {xs : List V} {ds : List PyData} (h : H p = some (.lst xs)) (h2 : toDs H n xs = some ds) : toD H (n + 1) (.ref p) = some (.list ds) := by
  simp only [toD, h, h2, Option.map_some]
theorem d_tup {n : Nat} {p : Addr} {xs : List V} {ds : List PyData} (h : H p = some (.tup xs)) (h2 : toDs H n xs = some ds) : toD H (n + 1) (.ref p) = some (.tuple ds) := by
  simp only [toD, h, h2, Option.map_some]
theorem d_nil {n : Nat} : toDs H n [] = some [] := by simp only [toDs]
theorem d_cons {n : Nat} {v : V} {vs : List V} {d : PyData} {ds : List PyData} (h : toD H n v = some d) (h2 : toDs H n vs = some ds) : toDs H n (v :: vs) = some (d :: ds) := by simp only [toDs, h, h2]
theorem s_setF {K : PySem.W.Frag} {a C dx : Addr} {fs : List (Str × V)} {f : Str} {y : V} {R : Hp → Prop} (h : H a = some (.ins C dx fs)) (c : Cls K C) (n : NoAttr K C f) (l : fs.length < 1000) (q : R (upd H a (.ins C dx (putF f y fs)))) : rSetF K f (.ref a) y H R := by
  unfold rSetF; simp only [h]; exact ⟨c, n, l, q⟩
theorem upd_upd {a : Addr} {o o' : HO} : upd (upd H a o) a o' = upd H a o' := by
  funext b
  unfold upd
  split <;> rfl
theorem s_new {o : HO} {R : V → Hp → Prop} (q : ∀ p H', H p = none → H' p = some o → Ext H H' → R (.ref p) H') : ∀ p, H p = none → R (.ref p) (upd H p o) := fun p hp => q p _ hp upd_at (Ext.upd hp)
theorem s_setN {p : Addr} {k : Int} {v : V} {xs : List V} {j : Nat} {R : Hp → Prop} (h : H p = some (.lst xs)) (h2 : ixN xs.length k = some j) (q : ∀ H', H' p = some (.lst (xs.set j v)) → ExtBut p H H' → R H') : rSetU (.ref p) (.int k) v H R :=
  s_set h h2 (q _ upd_at (ExtBut.upd (Ext.but (Ext.refl H))))
theorem eqv_nil : ∀ (l : List Int), PyData.eqv (.list (l.map .int)) (.list []) = l.isEmpty
  | [] => by rw [List.map_nil, PyData.eqv, PyData.eqvAll]; rfl
  | a :: l => by rw [List.map_cons, PyData.eqv, PyData.eqvAll]; rfl
theorem at_ints {l : List Int} {i : Int} (h0 : 0 ≤ i) (h1 : i < l.length) : ∃ c, atI (l.map V.int) i = some (.int c) := by
  have h2 : i.toNat < l.length := by omega
  exact ⟨l[i.toNat], atN h0 (by rw [List.getElem?_map, List.getElem?_eq_getElem h2]; rfl)⟩
theorem mix_bound {m a c1 c2 c3 : Int} (h0 : 0 ≤ m) (h1 : m < 2147483648) (a0 : 0 ≤ a) (a1 : a ≤ 1000001) (b0 : 0 ≤ c1) (b1 : c1 ≤ 1000000) (d0 : 0 ≤ c2) (d1 : c2 ≤ 1000000) (f0 : 0 ≤ c3) (f1 : c3 ≤ 1000000) :
    -18446744073709551616 < m * (2 * a + c1) + c2 * a * a + c3 ∧ m * (2 * a + c1) + c2 * a * a + c3 < 18446744073709551616 := by
  have x1 : m * (2 * a + c1) ≤ 2147483648 * 3000002 := Int.mul_le_mul (by omega) (by omega) (by omega) (by omega)
  have x0 : 0 ≤ m * (2 * a + c1) := Int.mul_nonneg h0 (by omega)
  have y0 : 0 ≤ c2 * a := Int.mul_nonneg d0 a0
  have y1 : c2 * a ≤ 1000000 * 1000001 := Int.mul_le_mul d1 a1 a0 (by omega)
  have z0 : 0 ≤ c2 * a * a := Int.mul_nonneg y0 a0
  have z1 : c2 * a * a ≤ (1000000 * 1000001) * 1000001 := Int.mul_le_mul y1 a1 a0 (by omega)
  omega
end
/-! ### the pen -/
structure Pen (H : Hp) (p l : Addr) (ns : List Int) (at_ rest n : Int) : Prop where
  hp : H p = some (.lst [.ref l, .int at_, .int rest])
  hl : H l = some (.lst (List.map V.int ns))
  len : ns.length ≤ 63
  at0 : 0 ≤ at_
  atn : at_ ≤ n
  rest0 : 0 ≤ rest
def PenX (H : Hp) (p : Addr) (n : Int) : Prop := ∃ l ns at_ rest, Pen H p l ns at_ rest n
theorem pen_ne {at_ rest : Int} {l : Addr} {ns : List Int} {H : Hp} {p : Addr} (h1 : H p = some (.lst [.ref l, .int at_, .int rest])) (h2 : H l = some (.lst (List.map V.int ns))) : l ≠ p := by
  intro z
  rw [z, h1] at h2
  cases ns with
  | nil => cases h2
  | cons a r => rw [List.map_cons] at h2; cases h2
theorem PenX.ext {H H' : Hp} {p : Addr} {n m : Int} (h : PenX H p n) (e : Ext H H') (hm : n ≤ m) : PenX H' p m := by
  obtain ⟨l, ns, a, r, P⟩ := h
  exact ⟨l, ns, a, r, e.at P.hp, e.at P.hl, P.len, P.at0, Int.le_trans P.atn hm, P.rest0⟩
def spDraw : Sp := fun vs H Q _ => ∃ p many n, vs = [.ref p, .int many] ∧ PenX H p n ∧ n ≤ 1000000 ∧ 1 ≤ many ∧ many < 1073741824 ∧
  ∀ r H', 0 ≤ r → r < many → ExtBut p H H' → PenX H' p (n + 1) → Q (.int r) H'
end Wp

set_option maxHeartbeats 4000000
namespace Wp
open PySem PySem.W L2 PyProof.Rows
section
variable {prog : Program} {w : World} {A : Around} {E : Value → Shared → Prop} {s : Shared} {K : Frag} {x C f : Addr} {ox : Obj} {od : Option Obj} {b : Value}
theorem num_own {M : Model} {h : Heap} {nm : String} {r : Option Value} (X : K.In h) (hs : findIn K (.ref C) (PySem.dunder nm) = some (some (.ref f))) (hr : findIn K (.ref C) (PySem.dunderR nm) = some r) (hr2 : ∀ id, r ≠ some (.builtin id)) :
    Looks M h (numberSlotInPython (.ref C) nm) true := by
  intro A Q E s k q
  unfold numberSlotInPython
  refine wpAny_bind (looks_findIn X hs A _ E s k ?_)
  refine wpAny_bind ?_
  show wpAny M A (pure true) _ E s
  refine wpAny_pure ?_
  refine wpAny_bind (looks_findIn X hr A _ E s k ?_)
  refine wpAny_bind ?_
  cases r with
  | none =>
    show wpAny M A (pure false) _ E s
    exact wpAny_pure (wpAny_pure q)
  | some v =>
    cases v with
    | builtin id => exact absurd rfl (hr2 id)
    | _ =>
      show wpAny M A (pure true) _ E s
      exact wpAny_pure (wpAny_pure q)
/-- x + b, x an own instance whose class has the method, b of a built-in type -/
theorem own_left1 {U nm : String} {rb : Bool} {ro r : Option Value} {Q : Option Value → Shared → Prop} (X : K.In s.heap) (I : InstAt s.heap x ox C od) (hb : Looks (model prog w) s.heap (typeOf b) (.type U)) (hc : selfFirst K C = true)
    (hs : findIn K (.ref C) (PySem.dunder nm) = some (some (.ref f))) (hf : isFn K (.ref f) = true) (hr : findIn K (.ref C) (PySem.dunderR nm) = some r) (hr2 : ∀ id, r ≠ some (.builtin id))
    (hfU : fillsNumberSlot (.type U) nm = pure rb) (hsub : subIn K (.type U) (.ref C) = some false) (hrU : typeLookup (.type U) (PySem.dunderR nm) = pure ro)
    (h : wpAny (model prog w) A (call (.ref f) [.ref x, b]) (W.CmpBack fun v s' => Q (some v) s') E s) : wpAny (model prog w) A (binaryOp1 nm (.ref x) b) Q E s := by
  obtain ⟨cd, hcd, hm⟩ := any_some hc
  obtain ⟨rest, hm⟩ : ∃ rest, cd.mro = .ref C :: rest := by
    cases q : cd.mro with
    | nil => rw [q] at hm; cases hm
    | cons a r => rw [q] at hm; exact ⟨r, by rw [List.head?_cons] at hm; cases (beq_iff_eq.mp hm); rfl⟩
  unfold binaryOp1
  refine wpAny_bind (I.type.here (wpAny_bind (hb.here (wpAny_bind ((fills_K X hcd hm hs).here ?_)))))
  have e1 : (Value.ref C == Value.type U) = false := rfl
  simp only [e1, Bool.false_eq_true, if_false]
  refine wpAny_bind (wpAny_of_eq hfU ?_)
  have fin : ∀ (k : Option Value → Sem (Option Value)), (∀ v, k (some v) = pure (some v)) → wpAny (model prog w) A (tryMethod (.ref x) (PySem.dunder nm) b >>= k) Q E s := fun k hk => by
    refine wpAny_bind ?_
    unfold tryMethod
    refine wpAny_bind (special_fn X I hs (beq_iff_eq.mp hf) (wpAny_mono h (fun v s' hv => ?_) fun _ _ e => e))
    cases v <;> first | exact hv.elim | (refine wpAny_pure ?_; rw [hk]; exact wpAny_pure hv)
  cases rb with
  | false =>
    simp only [Bool.and_false, Bool.false_eq_true, if_false, Bool.false_and, pure_bind]
    exact fin _ fun v => rfl
  | true =>
    simp only [Bool.and_self, if_true, Bool.not_false]
    refine wpAny_bind ((looks_subIn X hsub).here ?_)
    simp only [Bool.false_eq_true, if_false, pure_bind, Bool.not_false, Bool.and_self, if_true]
    refine wpAny_bind ((num_own X hs hr hr2).here ?_)
    have e2 : numberSlotInPython (.type U) nm = pure false := rfl
    simp only [if_true, e2, pure_bind, Bool.not_false]
    refine wpAny_bind (wpAny_of_eq hrU ?_)
    exact fin _ fun v => rfl
theorem own_left {U : String} {op : Operator} {rb : Bool} {ro r : Option Value} {Q : Value → Shared → Prop} (X : K.In s.heap) (I : InstAt s.heap x ox C od) (hb : Looks (model prog w) s.heap (typeOf b) (.type U)) (hc : selfFirst K C = true)
    (hs : findIn K (.ref C) (PySem.dunder op.info.2) = some (some (.ref f))) (hf : isFn K (.ref f) = true) (hr : findIn K (.ref C) (PySem.dunderR op.info.2) = some r) (hr2 : ∀ id, r ≠ some (.builtin id))
    (hfU : fillsNumberSlot (.type U) op.info.2 = pure rb) (hsub : subIn K (.type U) (.ref C) = some false) (hrU : typeLookup (.type U) (PySem.dunderR op.info.2) = pure ro)
    (h : wpAny (model prog w) A (call (.ref f) [.ref x, b]) (W.CmpBack Q) E s) : wpAny (model prog w) A (binaryOp op (.ref x) b) Q E s := by
  unfold binaryOp
  refine wpAny_holding (wpAny_bind ?_)
  refine own_left1 X I hb hc hs hf hr hr2 hfU hsub hrU (wpAny_mono h (fun v s' hv => ?_) fun _ _ e => e)
  cases v <;> first | exact hv.elim | exact wpAny_pure hv
theorem inst_keep {h h' : Heap} (I : W.InstAt h x ox C od) (k : ∀ b o, h.get? b = some o → h'.get? b = some o) : W.InstAt h' x ox C od := by
  refine ⟨k _ _ I.at_, I.cls, I.no, ?_⟩
  have q := I.dict
  split at q
  · exact k _ _ q
  · trivial
  · exact q.elim
/-- a + x, x an own instance whose class has the reflected method, a of a built-in type whose own method (if any) declines -/
theorem own_right1 {U nm : String} {lb : Bool} {a : Value} {Q : Option Value → Shared → Prop} (hK : ∀ s' : Shared, (∀ b o, s.heap.get? b = some o → s'.heap.get? b = some o) → K.In s'.heap) (I : InstAt s.heap x ox C od) (ha : Looks (model prog w) s.heap (typeOf a) (.type U)) (hc : selfFirst K C = true)
    (hs : findIn K (.ref C) (PySem.dunderR nm) = some (some (.ref f))) (hf : isFn K (.ref f) = true) {r : Option Value} (hr : findIn K (.ref C) (PySem.dunder nm) = some r) (hr2 : ∃ g, r = some (.ref g))
    (hfU : fillsNumberSlot (.type U) nm = pure lb) (hsub : subIn K (.ref C) (.type U) = some false)
    (hd : lb = true → wpAny (model prog w) A (tryMethod a (PySem.dunder nm) (.ref x)) (fun r s' => r = none ∧ (∀ b o, s.heap.get? b = some o → s'.heap.get? b = some o) ∧ wpAny (model prog w) A (call (.ref f) [.ref x, a]) (W.CmpBack fun v s' => Q (some v) s') E s') E s)
    (h : lb = false → wpAny (model prog w) A (call (.ref f) [.ref x, a]) (W.CmpBack fun v s' => Q (some v) s') E s) : wpAny (model prog w) A (binaryOp1 nm a (.ref x)) Q E s := by
  have X := hK s fun _ _ e => e
  obtain ⟨g, rfl⟩ := hr2
  obtain ⟨cd, hcd, hm⟩ := any_some hc
  obtain ⟨rest, hm⟩ : ∃ rest, cd.mro = .ref C :: rest := by
    cases q : cd.mro with
    | nil => rw [q] at hm; cases hm
    | cons a r => rw [q] at hm; exact ⟨r, by rw [List.head?_cons] at hm; cases (beq_iff_eq.mp hm); rfl⟩
  unfold binaryOp1
  refine wpAny_bind (ha.here (wpAny_bind (I.type.here (wpAny_bind (wpAny_of_eq hfU ?_)))))
  have e1 : (Value.type U == Value.ref C) = false := rfl
  simp only [e1, Bool.false_eq_true, if_false]
  refine wpAny_bind ((fills_K X hcd hm hr).here ?_)
  have e2 : numberSlotInPython (.type U) nm = pure false := rfl
  have fin : ∀ (s1 : Shared) (k : Option Value → Sem (Option Value)), (∀ v, k (some v) = (do rule "binop.reflected"; pure (some v))) → (∀ b o, s.heap.get? b = some o → s1.heap.get? b = some o) →
      wpAny (model prog w) A (call (.ref f) [.ref x, a]) (W.CmpBack fun v s' => Q (some v) s') E s1 → wpAny (model prog w) A (tryMethod (.ref x) (PySem.dunderR nm) a >>= k) Q E s1 := fun s1 k hk kp h => by
    refine wpAny_bind ?_
    unfold tryMethod
    refine wpAny_bind (special_fn (hK s1 kp) (inst_keep I kp) hs (beq_iff_eq.mp hf) (wpAny_mono h (fun v s' hv => ?_) fun _ _ e => e))
    cases v <;> first | exact hv.elim | (refine wpAny_pure ?_; rw [hk]; exact wpAny_bind (wpAny_rule (wpAny_pure hv)))
  cases lb with
  | false =>
    simp only [Bool.and_false, Bool.false_eq_true, if_false, Bool.false_and, pure_bind, Bool.not_false, Bool.and_true, if_true]
    exact fin s _ (fun v => rfl) (fun _ _ e => e) (h rfl)
  | true =>
    simp only [Bool.and_self, if_true, Bool.not_false]
    refine wpAny_bind ((looks_subIn X hsub).here ?_)
    simp only [Bool.false_eq_true, if_false, pure_bind, Bool.not_false, Bool.and_self, if_true, e2]
    refine wpAny_bind (wpAny_mono (hd rfl) (fun r s1 z => ?_) fun _ _ e => e)
    obtain ⟨rfl, kp, z⟩ := z
    exact fin s1 _ (fun v => rfl) kp z
end
/-! ### by values -/
structure InsK (K : Frag) (C : Addr) : Prop where
  cl : Cls K C
  sf : selfFirst K C = true
  ha : findIn K (.ref C) "__class__" = some (some (.builtin "object.__class__"))
  hn : specialIn K (.builtin "object.__class__") "__get__" = some (some (.builtin "getset_descriptor.__get__"))
  tk : takesIn K (.builtin "object.__class__") = some true
  hm : mroIn K C (.type "object") = some true
/-- the type of a value -/
def rTy (K : Frag) (x : V) (H : Hp) (k : Value → Prop) : Prop := match x with
  | .non => k (.type "NoneType")
  | .bl _ => k (.type "bool")
  | .int _ => k (.type "int")
  | .str _ => k (.type "str")
  | .ref a => (match H a with
    | some (.lst _) => k (.type "list")
    | some (.frz _ (.lst _)) => k (.type "list")
    | some (.tup _) => k (.type "tuple")
    | some (.dK _) => k (.type "dict")
    | some (.dT _) => k (.type "dict")
    | some (.ins C _ _) => InsK K C ∧ k (.ref C)
    | _ => False)
  | _ => False
theorem rTy_get {K : Frag} {x : V} {H : Hp} {k : Value → Prop} (h : rTy K x H k) : ∃ t, TyX K H x t ∧ k t := by
  unfold rTy at h
  split at h
  · exact ⟨_, .base .non, h⟩
  · exact ⟨_, .base (.bl _), h⟩
  · exact ⟨_, .base (.int _), h⟩
  · exact ⟨_, .base (.str _), h⟩
  · split at h
    · exact ⟨_, .base (.lst (by assumption)), h⟩
    · exact ⟨_, .base (.frz (by assumption)), h⟩
    · exact ⟨_, .base (.tup (by assumption)), h⟩
    · exact ⟨_, .base (.dK (by assumption)), h⟩
    · exact ⟨_, .base (.dT (by assumption)), h⟩
    · obtain ⟨c, h⟩ := h
      exact ⟨_, .base (.ins (by assumption) c.cl c.ha c.hn c.tk c.hm), h⟩
    · exact h.elim
  · exact h.elim
theorem ty_looks {X : Cx} {pins : List (Addr × Obj)} {σ : L2.St} {H : Hp} {s : Shared} {x : V} {u t : Value} (I : L2.Inv X pins σ H s) (rx : RelV x u) (ty : TyX X.K H x t) (M : Model) : Looks M s.heap (typeOf u) t := by
  obtain ⟨P, k, p, _⟩ := kit_of I rx ty
  exact k.ty M _ I.kIn p
def isIns (C : Addr) (H : Hp) (x : V) : Prop := match x with
  | .ref a => (match H a with
    | some (.ins C' _ _) => C' = C
    | _ => False)
  | _ => False
theorem isIns_get {C : Addr} {H : Hp} {x : V} (h : isIns C H x) : ∃ a dx fs, x = .ref a ∧ H a = some (.ins C dx fs) := by
  unfold isIns at h
  split at h
  · split at h
    · subst h; exact ⟨_, _, _, rfl, by assumption⟩
    · exact h.elim
  · exact h.elim
theorem s_ins {C a dx : Addr} {H : Hp} {fs : List (Str × V)} (h : H a = some (.ins C dx fs)) : isIns C H (.ref a) := by
  unfold isIns; simp only [h]
theorem inst_of {X : Cx} {pins : List (Addr × Obj)} {σ : L2.St} {H : Hp} {s : Shared} {a C dx : Addr} {fs : List (Str × V)} (I : L2.Inv X pins σ H s) (h : H a = some (.ins C dx fs)) : ∃ od, W.InstAt s.heap a (instObj C dx) C (some od) := by
  obtain ⟨mA, O, _⟩ := ins_get I.hok h
  obtain ⟨od, J, _⟩ := O.look
  exact ⟨od, J⟩
/-- the operator's method in the class, and its reflected one -/
structure BinM (K : Frag) (C : Addr) (nm : String) (f g : Addr) : Prop where
  hs : findIn K (.ref C) (PySem.dunder nm) = some (some (.ref f))
  hf : isFn K (.ref f) = true
  hr : findIn K (.ref C) (PySem.dunderR nm) = some (some (.ref g))
  hg : isFn K (.ref g) = true
def NumT (K : Frag) (C : Addr) (nm : String) (t : Value) : Prop := t = .ref C ∨ ∃ U rb ro, t = .type U ∧ fillsNumberSlot (.type U) nm = pure rb ∧ subIn K (.type U) (.ref C) = some false ∧ typeLookup (.type U) (PySem.dunderR nm) = pure ro
def rOpL (K : Frag) (C : Addr) (nm : String) (sp : Sp) (E : XK) : R2 := fun x y H Q => isIns C H x ∧ rTy K y H (NumT K C nm) ∧ sp [x, y] H Q E
theorem back_of {X : Cx} {pins : List (Addr × Obj)} {σ : L2.St} {Q : VK} {v : Value} {s' : Shared} (h : EP X pins σ Q v s') : W.CmpBack (EP X pins σ Q) v s' := by
  obtain ⟨y, H', I', r, q⟩ := id h
  cases v <;> first | exact h | (cases y <;> first | (obtain ⟨_, r2⟩ := r; cases r2; done) | (cases r; done))
theorem binop_own {prog : Program} {w : World} {A : Around} {E : Value → Shared → Prop} {s : Shared} {K : Frag} {x C f g : Addr} {ox : Obj} {od : Option Obj} {b t : Value} {nm : String} {Q : Option Value → Shared → Prop} (X : K.In s.heap) (I : W.InstAt s.heap x ox C od)
    (hb : Looks (model prog w) s.heap (typeOf b) t) (hc : selfFirst K C = true) (B : BinM K C nm f g) (ht : NumT K C nm t)
    (h : wpAny (model prog w) A (call (.ref f) [.ref x, b]) (W.CmpBack fun v s' => Q (some v) s') E s) : wpAny (model prog w) A (binaryOp1 nm (.ref x) b) Q E s := by
  rcases ht with rfl | ⟨U, rb, ro, rfl, h1, h2, h3⟩
  · obtain ⟨cd, hcd, hm⟩ := any_some hc
    obtain ⟨rest, hm⟩ : ∃ rest, cd.mro = .ref C :: rest := by
      cases q : cd.mro with
      | nil => rw [q] at hm; cases hm
      | cons a r => rw [q] at hm; exact ⟨r, by rw [List.head?_cons] at hm; cases (beq_iff_eq.mp hm); rfl⟩
    unfold binaryOp1
    refine wpAny_bind (I.type.here (wpAny_bind (hb.here (wpAny_bind ((fills_K X hcd hm B.hs).here ?_)))))
    simp only [beq_self_eq_true, if_true]
    refine wpAny_bind (wpAny_pure ?_)
    simp only [Bool.and_false, Bool.false_eq_true, if_false, Bool.false_and]
    refine wpAny_bind (wpAny_pure ?_)
    simp only [Bool.false_eq_true, if_false]
    refine wpAny_bind (m := tryMethod (.ref x) _ b) ?_
    unfold tryMethod
    refine wpAny_bind (special_fn X I B.hs (beq_iff_eq.mp B.hf) (wpAny_mono h (fun v s' hv => ?_) fun _ _ e => e))
    cases v <;> first | exact hv.elim | exact wpAny_pure (wpAny_pure hv)
  · exact own_left1 X I hb hc B.hs B.hf B.hr (fun id z => by cases z) h1 h2 h3 h
section
variable {X : Cx} {C f g : Addr} {k : Nat} {sp : Sp} {E : XK} {op : Operator}
theorem ow_L1 (hc : selfFirst X.K C = true) (B : BinM X.K C op.info.2 f g) (F : FnR X.prog X.w X.K X.mg X.base (L2.CX X.prog X.w) k f sp) (hr : Room k X.A) (hx : Passes (L2.CX X.prog X.w) X E)
    {pins : List (Addr × Obj)} {s : Shared} {σ : L2.St} {H : Hp} {x y : V} {v u : Value} {Q : VK} (I : L2.Inv X pins σ H s) (rx : RelV x v) (ry : RelV y u) (hq : rOpL X.K C op.info.2 sp E x y H Q) :
    wpAny (model X.prog X.w) X.A (binaryOp1 op.info.2 v u) (fun r s' => ∃ z, r = some z ∧ EP X pins σ Q z s') X.xe s := by
  obtain ⟨h1, h2, h3⟩ := hq
  obtain ⟨a, dx, fs, rfl, ha⟩ := isIns_get h1
  obtain ⟨t, ty, ht⟩ := rTy_get h2
  obtain rfl : v = Value.ref a := rx
  obtain ⟨od, J⟩ := inst_of I ha
  refine binop_own I.kIn J (ty_looks I ry ty _) hc B ht ?_
  refine wpAny_call (codeAny_mono (run_fnR F hr hx I (vs := [V.ref a, y]) (.cons rfl (.cons ry .nil)) h3) fun r s' z => ?_)
  cases r with
  | error e => exact z
  | ok fl =>
    cases fl with
    | ret w' =>
      have := back_of z
      cases w' <;> first | exact this.elim | exact ⟨_, rfl, this⟩
    | next => exact z.elim
    | brk => exact z.elim
    | cont => exact z.elim
theorem op_ownL {K : Frag} (hc : selfFirst K C = true) (B : BinM K C op.info.2 f g) (F : FnR X.prog X.w K X.mg X.base (L2.CX X.prog X.w) k f sp) (hr : Room k X.A) (hx : Passes (L2.CX X.prog X.w) X E) (hK : X.K = K := by rfl) : OpR X (binaryOp op) (rOpL K C op.info.2 sp E) := by
  subst hK
  intro pins s σ H x y v u Q I rx ry hq
  unfold binaryOp
  refine wpAny_holding (wpAny_bind (wpAny_mono (ow_L1 hc B F hr hx I rx ry hq) (fun r s' z => ?_) fun _ _ e => e))
  obtain ⟨z, rfl, q⟩ := z
  exact wpAny_pure q
/-- an int on the left -/
def rOpR (C : Addr) (sp : Sp) (E : XK) : R2 := fun x y H Q => isIns C H y ∧ (match x with
  | .int _ => sp [y, x] H Q E
  | _ => False)
theorem int_add_ref {prog : Program} {w : World} {A : Around} {E : Value → Shared → Prop} {s : Shared} {x : Addr} {ox : Obj} {a : Int} {t : Tok} {Q : Value → Shared → Prop} (hx : s.heap.get? x = some ox) (hd : ox.data = .plain)
    (h : Q .notImplemented s) : wpAny (model prog w) A (call (.builtin "int.__add__") [.int a t, .ref x]) Q E s := by
  obtain ⟨oc, od, dt, sl⟩ := ox
  simp only at hd
  subst hd
  refine GQ.call_here F.slot_int_add (typeIs_int s a t) F.entry_int_add (F.args_int_add_2 _ _) ?_
  obtain ⟨hp, g, d, tk, os⟩ := s
  wp_walk using AutoSeq1.wpAny_loadPart' hx
  exact h
theorem int_sub_ref {prog : Program} {w : World} {A : Around} {E : Value → Shared → Prop} {s : Shared} {x : Addr} {ox : Obj} {a : Int} {t : Tok} {Q : Value → Shared → Prop} (hx : s.heap.get? x = some ox) (hd : ox.data = .plain)
    (h : Q .notImplemented s) : wpAny (model prog w) A (call (.builtin "int.__sub__") [.int a t, .ref x]) Q E s := by
  obtain ⟨oc, od, dt, sl⟩ := ox
  simp only at hd
  subst hd
  refine GQ.call_here F.slot_int_sub (typeIs_int s a t) F.entry_int_sub (F.args_int_sub_2 _ _) ?_
  obtain ⟨hp, g, d, tk, os⟩ := s
  wp_walk using AutoSeq1.wpAny_loadPart' hx
  exact h
theorem int_mul_ref {prog : Program} {w : World} {A : Around} {E : Value → Shared → Prop} {s : Shared} {x : Addr} {ox : Obj} {a : Int} {t : Tok} {Q : Value → Shared → Prop} (hx : s.heap.get? x = some ox) (hd : ox.data = .plain)
    (h : Q .notImplemented s) : wpAny (model prog w) A (call (.builtin "int.__mul__") [.int a t, .ref x]) Q E s := by
  obtain ⟨oc, od, dt, sl⟩ := ox
  simp only at hd
  subst hd
  refine GQ.call_here F.slot_int_mul (typeIs_int s a t) F.entry_int_mul (F.args_int_mul_2 _ _) ?_
  obtain ⟨hp, g, d, tk, os⟩ := s
  wp_walk using AutoSeq1.wpAny_loadPart' hx
  exact h
theorem int_floordiv_ref {prog : Program} {w : World} {A : Around} {E : Value → Shared → Prop} {s : Shared} {x : Addr} {ox : Obj} {a : Int} {t : Tok} {Q : Value → Shared → Prop} (hx : s.heap.get? x = some ox) (hd : ox.data = .plain)
    (h : Q .notImplemented s) : wpAny (model prog w) A (call (.builtin "int.__floordiv__") [.int a t, .ref x]) Q E s := by
  obtain ⟨oc, od, dt, sl⟩ := ox
  simp only at hd
  subst hd
  refine GQ.call_here F.slot_int_floordiv (typeIs_int s a t) F.entry_int_floordiv (F.args_int_floordiv_2 _ _) ?_
  obtain ⟨hp, g, d, tk, os⟩ := s
  wp_walk using AutoSeq1.wpAny_loadPart' hx
  exact h
theorem int_mod_ref {prog : Program} {w : World} {A : Around} {E : Value → Shared → Prop} {s : Shared} {x : Addr} {ox : Obj} {a : Int} {t : Tok} {Q : Value → Shared → Prop} (hx : s.heap.get? x = some ox) (hd : ox.data = .plain)
    (h : Q .notImplemented s) : wpAny (model prog w) A (call (.builtin "int.__mod__") [.int a t, .ref x]) Q E s := by
  obtain ⟨oc, od, dt, sl⟩ := ox
  simp only at hd
  subst hd
  refine GQ.call_here F.slot_int_mod (typeIs_int s a t) F.entry_int_mod (F.args_int_mod_2 _ _) ?_
  obtain ⟨hp, g, d, tk, os⟩ := s
  wp_walk using AutoSeq1.wpAny_loadPart' hx
  exact h
theorem ow_R1 {id : String} (hc : selfFirst X.K C = true) (B : BinM X.K C op.info.2 f g) (F : FnR X.prog X.w X.K X.mg X.base (L2.CX X.prog X.w) k g sp) (hr : Room k X.A) (hx : Passes (L2.CX X.prog X.w) X E) (hfU : fillsNumberSlot (.type "int") op.info.2 = pure true) (hsub : subIn X.K (.ref C) (.type "int") = some false)
    (slot : Slot "int" (PySem.dunder op.info.2) id)
    (dec : ∀ {s : Shared} {x : Addr} {ox : Obj} {a : Int} {t : Tok} {Q : Value → Shared → Prop}, s.heap.get? x = some ox → ox.data = .plain → Q .notImplemented s → wpAny (model X.prog X.w) X.A (call (.builtin id) [.int a t, .ref x]) Q X.xe s)
    {pins : List (Addr × Obj)} {s : Shared} {σ : L2.St} {H : Hp} {x y : V} {v u : Value} {Q : VK} (I : L2.Inv X pins σ H s) (rx : RelV x v) (ry : RelV y u) (hq : rOpR C sp E x y H Q) :
    wpAny (model X.prog X.w) X.A (binaryOp1 op.info.2 v u) (fun r s' => ∃ z, r = some z ∧ EP X pins σ Q z s') X.xe s := by
  obtain ⟨h1, h3⟩ := hq
  obtain ⟨a, dx, fs, rfl, ha⟩ := isIns_get h1
  obtain rfl : u = Value.ref a := ry
  obtain ⟨od, J⟩ := inst_of I ha
  split at h3
  · rename_i i
    obtain ⟨t, rfl⟩ := rx
    have cl : wpAny (model X.prog X.w) X.A (call (.ref g) [.ref a, .int i t]) (W.CmpBack fun v s' => ∃ z, (some v : Option Value) = some z ∧ EP X pins σ Q z s') X.xe s := by
      refine wpAny_call (codeAny_mono (run_fnR F hr hx I (vs := [V.ref a, V.int i]) (.cons rfl (.cons ⟨t, rfl⟩ .nil)) h3) fun r s' z => ?_)
      cases r with
      | error e => exact z
      | ok fl =>
        cases fl with
        | ret w' =>
          have := back_of z
          cases w' <;> first | exact this.elim | exact ⟨_, rfl, this⟩
        | next => exact z.elim
        | brk => exact z.elim
        | cont => exact z.elim
    refine own_right1 (lb := true) (fun s' kp => I.kIn.keeps kp) J (Looks.of_pure (typeIs_int s i t)) hc B.hr B.hg B.hs ⟨_, rfl⟩ hfU hsub (fun _ => ?_) (fun z => by cases z)
    refine wpAny_tryMethod_declines (typeIs_int s i t) slot (dec J.at_ rfl ?_)
    exact ⟨rfl, rfl, fun _ _ e => e, cl⟩
  · exact h3.elim
theorem op_ownR {id : String} (hc : selfFirst X.K C = true) (B : BinM X.K C op.info.2 f g) (F : FnR X.prog X.w X.K X.mg X.base (L2.CX X.prog X.w) k g sp) (hr : Room k X.A) (hx : Passes (L2.CX X.prog X.w) X E) (hfU : fillsNumberSlot (.type "int") op.info.2 = pure true) (hsub : subIn X.K (.ref C) (.type "int") = some false)
    (slot : Slot "int" (PySem.dunder op.info.2) id)
    (dec : ∀ {s : Shared} {x : Addr} {ox : Obj} {a : Int} {t : Tok} {Q : Value → Shared → Prop}, s.heap.get? x = some ox → ox.data = .plain → Q .notImplemented s → wpAny (model X.prog X.w) X.A (call (.builtin id) [.int a t, .ref x]) Q X.xe s) :
    OpR X (binaryOp op) (rOpR C sp E) := by
  intro pins s σ H x y v u Q I rx ry hq
  unfold binaryOp
  refine wpAny_holding (wpAny_bind (wpAny_mono (ow_R1 hc B F hr hx hfU hsub slot dec I rx ry hq) (fun r s' z => ?_) fun _ _ e => e))
  obtain ⟨z, rfl, q⟩ := z
  exact wpAny_pure q
end
/-! ### isinstance -/
def cv : V → Option Value
  | .ty n => some (.type n)
  | .ref C => some (.ref C)
  | _ => none
def rIsiU (K : Frag) : List V → Hp → VK → Prop := fun vs H Q => match vs with
  | [x, c] => rTy K x H fun t => ∃ u b, cv c = some u ∧ kitOne K t u = some b ∧ Q (.bl b) H
  | _ => False
theorem cIsi {X : Cx} {K : Frag} (hK : X.K = K := by rfl) : CallR X (.builtin "isinstance") (rIsiU K) := by
  subst hK
  intro pins s σ H xs us Q I r h
  unfold rIsiU at h
  split at h
  · rename_i x c
    obtain ⟨t, ty, u, b, hc, hk, q⟩ := rTy_get h
    have hv : ClsV c u := by
      unfold cv at hc
      split at hc
      · cases hc; exact .ty _
      · cases hc; exact .own _
      · cases hc
    exact call_isi pins s σ H _ us Q I r ⟨x, c, t, u, b, rfl, hv, ty, hk, q⟩
  · exact h.elim
theorem rTy_mono {K : Frag} {x : V} {H : Hp} {k k' : Value → Prop} (m : ∀ t, k t → k' t) (h : rTy K x H k) : rTy K x H k' := by
  cases x with
  | ref a =>
    unfold rTy at h ⊢
    simp only at h ⊢
    cases e : H a with
    | none => rw [e] at h; exact h
    | some o =>
      rw [e] at h
      cases o with
      | frz o u => cases u <;> first | exact m _ h | exact h
      | ins C d f => exact ⟨h.1, m _ h.2⟩
      | _ => first | exact m _ h | exact h
  | _ => first | exact m _ h | exact h
theorem s_isi {K : Frag} {H : Hp} {Q : VK} {x c : V} {u : Value} {b : Bool} (hc : cv c = some u) (h : rTy K x H fun t => kitOne K t u = some b) (q : Q (.bl b) H) : rIsiU K [x, c] H Q := by
  show rTy K x H fun t => ∃ u b, cv c = some u ∧ kitOne K t u = some b ∧ Q (.bl b) H
  exact rTy_mono (fun t ht => ⟨u, b, hc, ht, q⟩) h
/-- o.m(e, ..) -/
theorem pe_mt2 {X : Cx} {k : Nat} {C : Addr} {m : Str} {sp : Sp} {E : XK} {o e : Expr} {es : List Expr} {ta : TE} {t : TA} {apos pos : Pos} {pl : Sem Bool} (g : GM X.prog X.w X.K X.mg X.base k C m sp) (hr : Room k X.A) (hx : Passes (L2.CX X.prog X.w) X E) (he : PE X o ta) (ha : PA X (e :: es) t)
    (hst : starEach (e :: es) X.env = (false, eval e X.env) :: starEach es X.env := by rfl) (hpl : (backTo pos (starEach es X.env)).any (·.1) = false := by rfl)
    (ht : eval (.Call (.Attribute o m apos) (e :: es) [] pos) X.env = (do
      let ov ← eval o X.env
      standAt apos.atName
      let (f, first) ← holding [ov] (getMethod ov m pl)
      callWith pos f first (backTo pos (starEach (e :: es) X.env)) (backToKw pos (keywordEach [] X.env))) := by rfl) : PE X (.Call (.Attribute o m apos) (e :: es) [] pos) (tMtU C m sp E ta t) := by
  obtain ⟨f, c, hm, F⟩ := g
  refine ⟨fun pins s σ H Q I h => ?_⟩
  refine PySem.W.methodCall_KW (pl := pl) (thn (he.run pins s σ H _ I h) fun u s1 ⟨x, H1, I1, rx, hi, q⟩ => ?_) ht
  obtain ⟨a, dx, fs, rfl, ea, l⟩ := insOf_get hi
  obtain rfl : u = Value.ref a := rx
  refine getmeth_ok I1 ea c hm l ?_
  refine PySem.W.callWith_K (first := [.ref a]) (h₀ := X.base) I.ok.mod.kin hm.kp (thn (ha.run pos pins s1 σ H1 _ I1 q) fun us s2 ⟨vs, H2, I2, r, q2⟩ => ⟨I2.kIn, ?_⟩) hst hpl
  exact wpAny_call (run_fnR (us := .ref a :: us) (vs := .ref a :: vs) F hr hx I2 (.cons rfl r) q2)
end Wp

set_option maxHeartbeats 4000000
namespace Wp
open PySem PySem.W L2 PyProof.Rows
section
variable {X : Cx} {C f : Addr} {k : Nat} {sp : Sp} {E : XK}
theorem run_sub {A : Around} {pins : List (Addr × Obj)} {s : Shared} {σ : L2.St} {H : Hp} {vs : List V} {us : List Value} {Q : VK} (F : FnR X.prog X.w X.K X.mg X.base (L2.CX X.prog X.w) k f sp) (sb : Sub X k A) (hx : Passes (L2.CX X.prog X.w) X E)
    (I : L2.Inv X pins σ H s) (r : Vals vs us) (h : sp vs H Q E) : wpAny (model X.prog X.w) A (call (.ref f) us) (EP X pins σ Q) X.xe s := by
  have e0 : Env0 X.prog X.w X.K X.mg X.base A X.stack s H := by
    have e := I.env0
    exact ⟨by rw [sb.fr]; exact e.frames, e.mod, e.bs, e.bsz, e.funs, e.frf, e.hok, e.bare⟩
  refine wpAny_call (codeAny_mono (F A X.stack s H us vs Q E sb.room e0 r h) fun r s' z => ?_)
  cases r with
  | error e => exact hx pins σ H s e s' I z
  | ok fl =>
    cases fl with
    | ret w' => exact I.after z
    | next => exact z.elim
    | brk => exact z.elim
    | cont => exact z.elim
theorem sub_here (hr : Room k X.A) : Sub X k X.A := ⟨hr, rfl⟩
theorem sub_in1 (hr : Room (k + 1) X.A) : Sub X k X.A.in1 := ⟨hr.in1, rfl⟩
/-! ### comparisons by an own method -/
def rCmpO (K : Frag) (C : Addr) (sp : Sp) (E : XK) : R2 := fun x y H Q => isIns C H x ∧ rTy K y H (fun t => notFirst K C t = true) ∧ sp [x, y] H Q E
theorem rc_own {op : CmpOp} {A : Around} (sb : Sub X k A) (hs : findIn X.K (.ref C) (cmpInfo op).2.1 = some (some (.ref f))) (hf : isFn X.K (.ref f) = true) (F : FnR X.prog X.w X.K X.mg X.base (L2.CX X.prog X.w) k f sp) (hx : Passes (L2.CX X.prog X.w) X E)
    {pins : List (Addr × Obj)} {s : Shared} {σ : L2.St} {H : Hp} {x y : V} {v u : Value} {Q : VK} (I : L2.Inv X pins σ H s) (rx : RelV x v) (ry : RelV y u) (hq : rCmpO X.K C sp E x y H Q) : wpAny (model X.prog X.w) A (richCompare op v u) (EP X pins σ Q) X.xe s := by
  obtain ⟨h1, h2, h3⟩ := hq
  obtain ⟨a, dx, fs, rfl, ha⟩ := isIns_get h1
  obtain ⟨t, ty, ht⟩ := rTy_get h2
  obtain rfl : v = Value.ref a := rx
  obtain ⟨od, J⟩ := inst_of I ha
  obtain ⟨m, hF⟩ := I.fr
  refine PySem.W.cmp_K (op := op) sb.room.units0 hF I.ok.mod.kin J (ty_looks I ry ty _) ht hs hf ?_
  exact wpAny_mono (run_sub F sb hx I (vs := [V.ref a, y]) (.cons rfl (.cons ry .nil)) h3) (fun v s' z => back_of z) fun _ _ e => e
theorem op_cmpO {K : Frag} {op : CmpOp} (ho : ∀ a b, compareOp op a b = richCompare op a b) (hs : findIn K (.ref C) (cmpInfo op).2.1 = some (some (.ref f))) (hf : isFn K (.ref f) = true) (F : FnR X.prog X.w K X.mg X.base (L2.CX X.prog X.w) k f sp) (hr : Room k X.A) (hx : Passes (L2.CX X.prog X.w) X E) (hK : X.K = K := by rfl) :
    OpR X (compareOp op) (rCmpO K C sp E) := by
  subst hK
  intro pins s σ H x y v u Q I rx ry hq
  rw [ho]
  exact rc_own (sub_here hr) hs hf F hx I rx ry hq
/-- != by the text's own == -/
def rNeO (K : Frag) (C : Addr) (sp : Sp) (E : XK) : R2 := fun x y H Q => isIns C H x ∧ rTy K y H (fun t => notFirst K C t = true) ∧ sp [x, y] H (fun v H' => ∃ b, v = .bl b ∧ Q (.bl (!b)) H') E
theorem op_neO {K : Frag} (hs : findIn K (.ref C) "__eq__" = some (some (.ref f))) (hf : isFn K (.ref f) = true) (hn : findIn K (.ref C) "__ne__" = some (some (.builtin "object.__ne__"))) (hob : mroIn K C (.type "object") = some true)
    (F : FnR X.prog X.w K X.mg X.base (L2.CX X.prog X.w) k f sp) (hr : Room (k + 1) X.A) (hx : Passes (L2.CX X.prog X.w) X E) (hK : X.K = K := by rfl) : OpR X (compareOp .NotEq) (rNeO K C sp E) := by
  subst hK
  intro pins s σ H x y v u Q I rx ry hq
  obtain ⟨h1, h2, h3⟩ := hq
  obtain ⟨a, dx, fs, rfl, ha⟩ := isIns_get h1
  obtain ⟨t, ty, ht⟩ := rTy_get h2
  obtain rfl : v = Value.ref a := rx
  obtain ⟨od, J⟩ := inst_of I ha
  have hu := hr.units0
  have one : wpAny (model X.prog X.w) X.A (tryCompare (.ref a) "__ne__" u) (fun r s' => ∃ v, r = some v ∧ EP X pins σ Q v s') X.xe s := by
    unfold tryCompare
    simp only [callSpecialIfBound?, bindSpecialIfBound?]
    have hb : bindSpecial (.builtin "object.__ne__") (.ref a) = pure (.builtin "object.__ne__", [.ref a]) := PySem.F.slot_object_ne.bind _
    have cl : wpAny (model X.prog X.w) X.A (call (.builtin "object.__ne__") [.ref a, u]) (EP X pins σ Q) X.xe s := by
      refine wpAny_call (codeAny_call_builtin PySem.F.slot_object_ne.plain PySem.F.cmpEntry_ne (@PySem.W.check_slot (model X.prog X.w) _ _ s "object.__ne__" "object" "__ne__" (.ref a) [u] [] _ PySem.F.cmpKind_ne PySem.F.cmpSplit_ne ?_ (PySem.F.cmpArgs_ne _ _) ?_))
      · exact J.type.andThen (looks_subIn I.kIn hob)
      · have call1 := run_sub F (sub_in1 hr) hx I (vs := [V.ref a, y]) (.cons rfl (.cons ry .nil)) h3
        have hu1 : X.A.in1.units < cLine := hr.in1.units0
        unfold Builtin.«object.__ne__»
        repeat (first
          | with_reducible refine wpAny_cRoomFor hu1 ?_
          | (refine wpAny_bind (m := callSpecialIfBound? (.ref a) (Str.ofString "__eq__") [u])
              (ifBound_K I.kIn J hs hf (wpAny_mono call1 (fun r s' hr => by
                obtain ⟨z, H', I', rz, b, rfl, hq⟩ := hr
                obtain rfl : r = Value.bool b := rz
                have hq : EP X pins σ Q (.bool (!b)) s' := ⟨.bl (!b), H', I', rfl, hq⟩
                repeat (first | exact hq | exact wpAny_pure hq | exact wpAny_truthy_bool hq | (refine wpAny_bind (m := truthy (.bool _)) (wpAny_truthy_bool ?_)) | wp_step)) fun _ _ e => e)))
          | wp_step)
    refine wpAny_bind (wpAny_holding (wpAny_bind (wpAny_bind (wpAny_bind (J.type.here ((looks_findIn I.kIn hn).here ?_))))))
    refine wpAny_bind (wpAny_askSetting (wpAny_ite ?_))
    have fin : wpAny (model X.prog X.w) X.A (call (.builtin "object.__ne__") ([.ref a] ++ [u]) >>= fun v => pure (some v)) (fun r s' => wpAny (model X.prog X.w) X.A (match r with | some .notImplemented | none => pure none | some v => pure (some v)) (fun r s' => ∃ v, r = some v ∧ EP X pins σ Q v s') X.xe s') X.xe s :=
      wpAny_bind (wpAny_mono cl (fun v s' h' => wpAny_pure (by
        have := back_of h'
        cases v <;> first | exact this.elim | exact wpAny_pure ⟨_, rfl, this⟩)) fun _ _ h' => h')
    split
    · exact wpAny_bind (wpAny_of_eq hb (wpAny_pure (by exact fin)))
    · exact wpAny_tryCatch (wpAny_bind (wpAny_of_eq hb (wpAny_pure (by exact fin))))
  show wpAny (model X.prog X.w) X.A (richCompare .NotEq (.ref a) u) (EP X pins σ Q) X.xe s
  unfold richCompare
  simp only [oneThing_ref]
  refine wpAny_holding (wpAny_bind (wpAny_cRoomFor hu ?_))
  refine wpAny_bind (J.type.here (wpAny_bind ((ty_looks I ry ty _).here ?_)))
  split
  · rename_i q
    have e : subIn X.K t (.ref C) = some false := by
      rcases Bool.or_eq_true_iff.mp ht with e | e
      · rw [beq_iff_eq.mp e] at q; simp at q
      · exact beq_iff_eq.mp e
    refine wpAny_bind ((looks_subIn I.kIn e).here ?_)
    simp only [Bool.false_eq_true, if_false]
    refine wpAny_bind (wpAny_mono one (fun r s' z => ?_) fun _ _ e => e)
    obtain ⟨v, rfl, hq⟩ := z
    exact wpAny_pure hq
  · refine wpAny_bind (wpAny_pure ?_)
    simp only [Bool.false_eq_true, if_false]
    refine wpAny_bind (wpAny_mono one (fun r s' z => ?_) fun _ _ e => e)
    obtain ⟨v, rfl, hq⟩ := z
    exact wpAny_pure hq
/-! ### -x, bool(x), x op= y -/
def rUnO (C : Addr) (sp : Sp) (E : XK) : V → Hp → VK → Prop := fun x H Q => isIns C H x ∧ sp [x] H Q E
theorem un_negO (hs : findIn X.K (.ref C) "__neg__" = some (some (.ref f))) (hf : isFn X.K (.ref f) = true) (F : FnR X.prog X.w X.K X.mg X.base (L2.CX X.prog X.w) k f sp) (hr : Room k X.A) (hx : Passes (L2.CX X.prog X.w) X E) : UnR X (unaryOp .USub) (rUnO C sp E) := by
  intro pins s σ H x v Q I rx hq
  obtain ⟨h1, h3⟩ := hq
  obtain ⟨a, dx, fs, rfl, ha⟩ := isIns_get h1
  obtain rfl : v = Value.ref a := rx
  obtain ⟨od, J⟩ := inst_of I ha
  obtain ⟨m, hF⟩ := I.fr
  exact ksp_neg hF I.ok.mod.kin J hs hf (run_sub F (sub_here hr) hx I (vs := [V.ref a]) (.cons rfl .nil) h3)
end
theorem bool_newO {prog : Program} {w : World} {x : Value} : MeetsIn prog w (Builtin.«bool.__new__» ⟨[.type "bool", x], []⟩) (fun A R s => wpAny (model prog w) A.in1 (truthy x) (fun b s' => R (.ok (.ret (.bool b))) s') (fun e s' => R (.error e) s') s) := by
  intro A R s hs
  obtain ⟨hp, g, d, tk, os⟩ := s
  have f1 := PySem.F.conv_sub_bool
  unfold Builtin.«bool.__new__»
  repeat (any_goals (first | assumption | with_reducible refine wpAny_bind (m := truthy x) (wpAny_mono hs (fun b s' z => ?_) fun _ _ e => e) | wp_step))
  all_goals exact z
section
variable {X : Cx} {C f : Addr} {k : Nat} {sp : Sp} {E : XK}
def rBoolO (C : Addr) (sp : Sp) (E : XK) : List V → Hp → VK → Prop := fun vs H Q => match vs with
  | [x] => isIns C H x ∧ sp [x] H (fun v H' => ∃ b, v = .bl b ∧ Q (.bl b) H') E
  | _ => False
theorem call_boolO (hs : findIn X.K (.ref C) "__bool__" = some (some (.ref f))) (hf : isFn X.K (.ref f) = true) (F : FnR X.prog X.w X.K X.mg X.base (L2.CX X.prog X.w) k f sp) (hr : Room (k + 2) X.A) (hx : Passes (L2.CX X.prog X.w) X E) : CallR X (.type "bool") (rBoolO C sp E) := by
  intro pins s σ H xs us Q I r h
  unfold rBoolO at h
  split at h
  · rename_i x
    obtain ⟨h1, h3⟩ := h
    obtain ⟨a, dx, fs, rfl, ha⟩ := isIns_get h1
    obtain ⟨u, rfl, ru⟩ := vals1 r
    obtain rfl : u = Value.ref a := ru
    obtain ⟨od, J⟩ := inst_of I ha
    obtain ⟨m, hF⟩ := I.fr
    refine callType_newIn PySem.F.called_bool PySem.F.newNe_bool (PySem.F.typeCall_bool_1 _) (PySem.F.newCall_bool_1 _) (fun obj => PySem.F.args_object_init_2 obj _) PySem.F.entry_bool_new bool_newO ?_
    refine truthy_K hF I.ok.mod.kin J hs hf ?_
    refine wpAny_mono (run_sub F (A := X.A.in1.in1) ⟨hr.in1.in1, rfl⟩ hx I (vs := [V.ref a]) (.cons rfl .nil) h3) (fun v s' z => ?_) fun _ _ e => e
    obtain ⟨y, H', I', ry, b, rfl, q⟩ := z
    obtain rfl : v = Value.bool b := ry
    exact ⟨rfl, .bl b, H', I', rfl, q⟩
  · exact h.elim
end
section
variable {X : Cx} {C f g : Addr} {k : Nat} {sp : Sp} {E : XK} {op : Operator}
theorem no_inplace {M : Model} {h : Heap} {K : Frag} {cd : ClassData} {nm : String} {add : Bool} (X : K.In h) (hc : clsIn K C = some cd) (hm : cd.mro = [.ref C, .type "object"]) (hs : findIn K (.ref C) (dunderI nm) = some none) (ho : typeLookup (.type "object") (dunderI nm) = pure none) :
    Looks M h (fillsInplaceSlot (.ref C) nm add) false := by
  intro A Q E s k q
  unfold fillsInplaceSlot
  refine wpAny_bind ((looks_clsIn X hc).andThen (f := fun cd => pure cd.mro) .now A _ E s k ?_)
  rw [hm, List.anyM_cons]
  refine wpAny_bind ?_
  refine wpAny_bind (looks_findIn X hs A _ E s k ?_)
  refine wpAny_pure ?_
  simp only [Bool.false_eq_true, if_false]
  rw [List.anyM_cons]
  refine wpAny_bind (wpAny_bind (wpAny_of_eq ho (wpAny_pure ?_)))
  simp only [Bool.false_eq_true, if_false]
  exact wpAny_pure q
def twoMro (K : Frag) (C : Addr) : Bool := (clsIn K C).any fun cd => cd.mro == [.ref C, .type "object"]
theorem iop_ownL {K : Frag} (hc : selfFirst K C = true) (hm : twoMro K C = true) (hi : findIn K (.ref C) (dunderI op.info.2) = some none) (ho : typeLookup (.type "object") (dunderI op.info.2) = pure none) (B : BinM K C op.info.2 f g)
    (F : FnR X.prog X.w K X.mg X.base (L2.CX X.prog X.w) k f sp) (hr : Room k X.A) (hx : Passes (L2.CX X.prog X.w) X E) (hK : X.K = K := by rfl) : PIp X op (rOpL K C op.info.2 sp E) := by
  subst hK
  intro pins s σ H x y v u Q I rx ry hq
  have one := ow_L1 hc B F hr hx I rx ry hq
  obtain ⟨h1, h2, h3⟩ := hq
  obtain ⟨a, dx, fs, rfl, ha⟩ := isIns_get h1
  obtain rfl : v = Value.ref a := rx
  obtain ⟨od, J⟩ := inst_of I ha
  obtain ⟨cd, hcd, hm⟩ := any_some hm
  unfold inplaceOp
  refine wpAny_holding (wpAny_bind (J.type.here (wpAny_bind ((no_inplace I.kIn hcd (beq_iff_eq.mp hm) hi ho).here ?_))))
  simp only [Bool.false_eq_true, if_false]
  refine wpAny_bind (wpAny_mono one (fun r s' z => ?_) fun _ _ e => e)
  obtain ⟨z, rfl, q⟩ := z
  exact wpAny_pure q
end
end Wp

set_option maxHeartbeats 4000000
namespace Wp
open PySem PySem.W L2 PyProof.Rows
section
variable {prog : Program} {w : World} {A : Around} {E : Value → Shared → Prop} {s : Shared} {x : Addr} {ox : Obj}
open PySem.SeqAt MeetsSeq MeetsSeq2 MeetsSeq3 SeqRoads2
open AutoSeq1 (wpAny_loadPart')
theorem none_eq_ref {Q : Value → Shared → Prop} (hx : s.heap.get? x = some ox) (h : Q .notImplemented s) : wpAny (model prog w) A (call (.builtin "NoneType.__eq__") [.none, .ref x]) Q E s := by
  refine GQ.call_here PySem.F.slot_NoneType_eq (by rfl) PySem.F.entry_NoneType_eq (PySem.F.args_NoneType_eq_2 _ _) ?_
  obtain ⟨hp, g, d, tk, os⟩ := s
  wp_walk using wpAny_loadPart' hx
  exact h
theorem str_eq_ref {z : Str} {t : Tok} {Q : Value → Shared → Prop} (hx : s.heap.get? x = some ox) (hd : ox.data = .plain) (h : Q .notImplemented s) : wpAny (model prog w) A (call (.builtin "str.__eq__") [.str z t, .ref x]) Q E s := by
  obtain ⟨oc, od, dt, sl⟩ := ox
  simp only at hd
  subst hd
  refine GQ.call_here PySem.F.slot_str_eq (by rfl) PySem.F.entry_str_eq (PySem.F.args_str_eq_2 _ _) ?_
  obtain ⟨hp, g, d, tk, os⟩ := s
  wp_walk using wpAny_loadPart' hx
  exact h
theorem tup_eq_ref {l : Addr} {items : Array Value} {K : Frag} {C : Addr} {Q : Value → Shared → Prop} (X : K.In s.heap) (hl : s.heap.IsTuple l items) (hx : s.heap.get? x = some ox) (hc : ox.cls = .ref C) (hs : subIn K (.ref C) (.type "tuple") = some false) (h : Q .notImplemented s) : wpAny (model prog w) A (call (.builtin "tuple.__eq__") [.ref l, .ref x]) Q E s := by
  obtain ⟨⟨cls, dd, data, sl⟩, ho, hc', n, hd⟩ := id hl
  simp only at hc' hd
  subst hc' hd
  refine GQ.call_here PySem.F.slot_tuple_eq ⟨_, ho, rfl⟩ PySem.F.entry_tuple_eq (PySem.F.args_tuple_eq_2 _ _) ?_
  have f1 := AutoSeq1.sub_tuple_tuple
  obtain ⟨hp, g, d, tk, os⟩ := s
  have f2 : Looks (model prog w) hp (isSubtype (.ref C) (.type "tuple")) false := looks_subIn X hs
  obtain ⟨oc, od, dt, sl2⟩ := ox
  simp only at hc
  subst hc
  wp_walk using wpAny_loadPart' ho, wpAny_loadPart' hx, f2.here
  exact h
/-- the loop of list.__contains__ -/
theorem contains_loopG {R : Result → Shared → Prop} (l : Addr) (v : Value) (n : Nat) (I : Nat → Shared → Prop)
    (hl : ∀ i s, I i s → ∃ (items : Array Value) (m : Nat), s.heap.get? l = some { cls := .type "list", data := .seq items m } ∧ items.size = n ∧
      ∀ h : i < items.size, wpAny (model prog w) A.in1 (eqBool items[i] v) (fun r s' => if r = true then R (.ok (.ret (.bool true))) s' else I (i + 1) s') (fun e s' => R (.error e) s') s)
    (fin : ∀ s, I n s → R (.ok (.ret (.bool false))) s) (k : Nat) : ∀ i : Nat, n - i = k → i ≤ n → ∀ s, I i s →
      wpAny (model prog w) A.in1 (Builtin.«list.__contains__.loop» ⟨[.ref l, v, rawInt i], []⟩) (GQ.FinOf prog w A R) (fun e s' => R (.error e) s') s := by
  induction k with
  | zero =>
    intro i hk hi s h
    obtain ⟨items, m, h1, hs, _⟩ := hl _ _ h
    have hi' : i = n := by omega
    have hR := fin s (hi' ▸ h)
    obtain ⟨hp, g, d, tk, os⟩ := s
    wp_walk using wpAny_loadPart' h1
    have hi : items[((i : Nat) : Int).toNat]? = none := by simp; omega
    rw [hi]
    wp_walk
    exact hR
  | succ k ih =>
    intro i hk hi s h
    obtain ⟨items, m, h1, hs, turn⟩ := hl _ _ h
    have hlt : i < items.size := by omega
    have ht := turn hlt
    obtain ⟨hp, g, d, tk, os⟩ := s
    wp_walk using wpAny_loadPart' h1
    have hi : items[((i : Nat) : Int).toNat]? = some items[i] := by simp [hlt]
    have hc : ((i : Int) + 1) = ((i + 1 : Nat) : Int) := by omega
    rw [hi]
    refine wpAny_bind (wpAny_mono ht (fun r s2 h2 => ?_) fun _ _ x => x)
    obtain ⟨hp2, g2, d2, tk2, os2⟩ := s2
    cases r with
    | true =>
      wp_walk
      exact h2
    | false =>
      have hrec := ih (i + 1) (by omega) (by omega) _ h2
      wp_walk
      rw [hc]
      exact ⟨plainId_quiet plain_contains_loop _, codeAny_builtin entry_contains_loop (by
        rw [Around.under_plainId plain_contains_loop _]
        exact hrec)⟩
theorem in_listG {Q : Value → Shared → Prop} (l : Addr) (v : Value) (n : Nat) (I : Nat → Shared → Prop)
    (hl : ∀ i s, I i s → ∃ (items : Array Value) (m : Nat), s.heap.get? l = some { cls := .type "list", data := .seq items m } ∧ items.size = n ∧
      ∀ h : i < items.size, wpAny (model prog w) A.in1 (eqBool items[i] v) (fun r s' => if r = true then Q (.bool true) s' else I (i + 1) s') E s)
    (fin : ∀ s, I n s → Q (.bool false) s) (h : I 0 s) : wpAny (model prog w) A (compareOp .In v (.ref l)) Q E s := by
  obtain ⟨items, m, h1, hs, turn⟩ := hl _ _ h
  show wpAny _ A (do return .bool (← contains (.ref l) v)) Q E s
  refine wpAny_bind (wpAny_contains_slot (T := "list") ⟨_, h1, rfl⟩ PySem.F.slot_list_contains (GQ.call_here PySem.F.slot_list_contains ⟨_, h1, rfl⟩ PySem.F.entry_list_contains (PySem.F.args_list_contains_2 _ _) ?_))
  have hrec := contains_loopG (A := A) (R := wants (fun r s' => wpAny (model prog w) A (truthy r) (fun b s' => wpAny (model prog w) A (pure (.bool b)) Q E s') E s') E) l v n I (fun i s q => by
    obtain ⟨items, m, h1, hs, turn⟩ := hl i s q
    refine ⟨items, m, h1, hs, fun hh => wpAny_mono (turn hh) (fun r s' z => ?_) fun _ _ e => e⟩
    cases r with
    | true => exact wpAny_truthy_bool (wpAny_pure z)
    | false => exact z) (fun s q => wpAny_truthy_bool (wpAny_pure (fin s q))) _ 0 rfl (Nat.zero_le _) s h
  obtain ⟨hp, g, d, tk, os⟩ := s
  wp_walk using wpAny_loadPart' h1
  exact ⟨plainId_quiet plain_contains_loop _, codeAny_builtin entry_contains_loop (by
    rw [Around.under_plainId plain_contains_loop _]
    exact hrec)⟩
end
/-! ### x in a list, x an own instance with its own ==, the items built-in values -/
/-- what declines == -/
def decl (K : Frag) (C : Addr) (y : V) (H : Hp) : Prop := match y with
  | .non => subIn K (.ref C) (.type "NoneType") = some false
  | .str _ => subIn K (.ref C) (.type "str") = some false
  | .ref a => (match H a with
    | some (.tup _) => subIn K (.ref C) (.type "tuple") = some false
    | _ => False)
  | _ => False
def rInIt (K : Frag) (C : Addr) (sp : Sp) (E : XK) (l : Addr) (all : List V) (x : V) : List V → Hp → VK → Prop
  | [], H, Q => Q (.bl false) H
  | y :: ys, H, Q => decl K C y H ∧ sp [x, y] H (fun v H' => ∃ b, v = .bl b ∧ if b = true then Q (.bl true) H' else H' l = some (.lst all) ∧ isIns C H' x ∧ rInIt K C sp E l all x ys H' Q) E
def rInO (K : Frag) (C : Addr) (sp : Sp) (E : XK) : R2 := fun x y H Q => isIns C H x ∧ (match y with
  | .ref l => (match H l with
    | some (.lst xs) => rInIt K C sp E l xs x xs H Q
    | _ => False)
  | _ => False)
section
variable {X : Cx} {C f : Addr} {k : Nat} {sp : Sp} {E : XK}
theorem eqBool_rc {prog : Program} {w : World} {A : Around} {E : Value → Shared → Prop} {s : Shared} {u : Value} {a : Addr} {Q : Bool → Shared → Prop} (hne : (u == .ref a) = false) (h : wpAny (model prog w) A (richCompare .Eq u (.ref a)) (fun v s' => ∃ r, v = .bool r ∧ Q r s') E s) : wpAny (model prog w) A (eqBool u (.ref a)) Q E s := by
  unfold eqBool
  refine wpAny_holding ?_
  rw [hne]
  simp only [Bool.false_eq_true, if_false]
  cases u <;> (first
    | (refine wpAny_bind (wpAny_mono h (fun v s' hv => ?_) fun _ _ x => x)
       obtain ⟨r, rfl, q⟩ := hv
       exact wpAny_truthy_bool q))
/-- u == x, u's own method declines -/
theorem rc_refl {A : Around} {T id : String} (sb : Sub X k A) (hs : findIn X.K (.ref C) "__eq__" = some (some (.ref f))) (hf : isFn X.K (.ref f) = true) (F : FnR X.prog X.w X.K X.mg X.base (L2.CX X.prog X.w) k f sp) (hx : Passes (L2.CX X.prog X.w) X E)
    {pins : List (Addr × Obj)} {s : Shared} {σ : L2.St} {H : Hp} {y : V} {u : Value} {a dx : Addr} {fs : List (Str × V)} {Q : VK} (I : L2.Inv X pins σ H s) (ry : RelV y u) (ha : H a = some (.ins C dx fs)) (hone : oneThing? .Eq u (.ref a) = none) (hT : s.TypeIs u T) (slot : Slot T (cmpInfo .Eq).2.1 id)
    (hsub : subIn X.K (.ref C) (.type T) = some false)
    (dec : ∀ Q : Value → Shared → Prop, Q .notImplemented s → wpAny (model X.prog X.w) A (call (.builtin id) [u, .ref a]) Q X.xe s) (h3 : sp [.ref a, y] H Q E) : wpAny (model X.prog X.w) A (richCompare .Eq u (.ref a)) (EP X pins σ Q) X.xe s := by
  obtain ⟨od, J⟩ := inst_of I ha
  unfold richCompare
  simp only [hone]
  refine wpAny_holding (wpAny_bind (wpAny_cRoomFor sb.room.units0 ?_))
  refine wpAny_bind (wpAny_typeOf hT (wpAny_bind (J.type.here ?_)))
  have e : (Value.type T != Value.ref C) = true := rfl
  simp only [e, if_true]
  refine wpAny_bind ((looks_subIn I.kIn hsub).here ?_)
  simp only [Bool.false_eq_true, if_false, Bool.not_false, if_true]
  refine wpAny_bind (wpAny_tryCompare_declines hT slot (dec _ ⟨rfl, ?_⟩))
  refine wpAny_bind ?_
  unfold tryCompare
  refine wpAny_bind (ifBound_K I.kIn J hs hf (wpAny_mono (run_sub F sb hx I (vs := [V.ref a, y]) (.cons rfl (.cons ry .nil)) h3) (fun v s' z => ?_) fun _ _ e => e))
  have := back_of z
  cases v <;> first | exact this.elim | exact wpAny_pure (wpAny_pure this)
theorem rc_decl {A : Around} (sb : Sub X k A) (hs : findIn X.K (.ref C) "__eq__" = some (some (.ref f))) (hf : isFn X.K (.ref f) = true) (F : FnR X.prog X.w X.K X.mg X.base (L2.CX X.prog X.w) k f sp) (hx : Passes (L2.CX X.prog X.w) X E)
    {pins : List (Addr × Obj)} {s : Shared} {σ : L2.St} {H : Hp} {y : V} {u : Value} {a dx : Addr} {fs : List (Str × V)} {Q : VK} (I : L2.Inv X pins σ H s) (ry : RelV y u) (ha : H a = some (.ins C dx fs)) (hd : decl X.K C y H) (h3 : sp [.ref a, y] H Q E) :
    (u == .ref a) = false ∧ wpAny (model X.prog X.w) A (richCompare .Eq u (.ref a)) (EP X pins σ Q) X.xe s := by
  obtain ⟨od, J⟩ := inst_of I ha
  unfold decl at hd
  split at hd
  · obtain rfl : u = Value.none := ry
    exact ⟨rfl, rc_refl sb hs hf F hx I (y := .non) rfl ha rfl (by rfl) PySem.F.slot_NoneType_eq hd (fun Q q => none_eq_ref J.at_ q) h3⟩
  · obtain ⟨t, rfl⟩ := id ry
    exact ⟨rfl, rc_refl sb hs hf F hx I ry ha rfl (by rfl) PySem.F.slot_str_eq hd (fun Q q => str_eq_ref J.at_ rfl q) h3⟩
  · split at hd
    · rename_i b _ xs hb
      obtain rfl : u = Value.ref b := ry
      obtain ⟨its, r, e, z⟩ := I.tuple (SqT.of hb)
      obtain ⟨o, ho, hc, n, hd'⟩ := id e
      have hne : b ≠ a := fun z => by rw [z, ha] at hb; cases hb
      refine ⟨by simpa using hne, rc_refl sb hs hf F hx I (y := .ref b) rfl ha (by simp only [oneThing_ref]) ⟨o, ho, hc⟩ PySem.F.slot_tuple_eq hd (fun Q q => tup_eq_ref I.kIn e J.at_ rfl hd q) h3⟩
    · exact hd.elim
  · exact hd.elim
theorem op_inO {K : Frag} (hs : findIn K (.ref C) "__eq__" = some (some (.ref f))) (hf : isFn K (.ref f) = true) (F : FnR X.prog X.w K X.mg X.base (L2.CX X.prog X.w) k f sp) (hr : Room (k + 1) X.A) (hx : Passes (L2.CX X.prog X.w) X E) (hK : X.K = K := by rfl) : OpR X (compareOp .In) (rInO K C sp E) := by
  subst hK
  intro pins s σ H x y v u Q I rx ry hq
  obtain ⟨h1, h2⟩ := hq
  split at h2
  · split at h2
    · rename_i l _ xs hl
      obtain rfl : u = Value.ref l := ry
      obtain ⟨a, dx, fs, rfl, ha⟩ := isIns_get h1
      obtain rfl : v = Value.ref a := rx
      refine in_listG l (.ref a) xs.length (fun i s' => ∃ H', L2.Inv X pins σ H' s' ∧ H' l = some (.lst xs) ∧ isIns C H' (.ref a) ∧ rInIt X.K C sp E l xs (.ref a) (xs.drop i) H' Q) (fun i s' q => ?_) (fun s' q => ?_) ⟨H, I, hl, h1, by rw [List.drop_zero]; exact h2⟩
      · obtain ⟨H', I', hl', h1', q⟩ := q
        obtain ⟨z, its, m, r, e⟩ := I'.hok l _ hl'
        refine ⟨its.toArray, m, e, by rw [List.size_toArray, ← r.length], fun hi => ?_⟩
        have hi' : i < xs.length := by rw [r.length]; simpa using hi
        rw [List.drop_eq_getElem_cons hi'] at q
        obtain ⟨hd, q⟩ := q
        obtain ⟨w', hw, rw'⟩ := r.get (List.getElem?_eq_getElem hi')
        have hi2 : i < its.length := by simpa using hi
        rw [List.getElem?_eq_getElem hi2] at hw
        have ew : its.toArray[i] = w' := by simpa using Option.some.inj hw
        rw [ew]
        obtain ⟨a2, dx', fs', ea, ha'⟩ := isIns_get h1'
        cases ea
        obtain ⟨hne, rc⟩ := rc_decl (sub_in1 hr) hs hf F hx I' rw' ha' hd q
        refine eqBool_rc hne (wpAny_mono rc (fun v s2 z => ?_) fun _ _ e => e)
        obtain ⟨y', H2, I2, r2, b, rfl, q2⟩ := z
        obtain rfl : v = Value.bool b := r2
        refine ⟨b, rfl, ?_⟩
        cases b with
        | true =>
          rw [if_pos rfl] at q2 ⊢
          exact ⟨.bl true, H2, I2, rfl, q2⟩
        | false =>
          rw [if_neg Bool.false_ne_true] at q2 ⊢
          exact ⟨H2, I2, q2⟩
      · obtain ⟨H', I', hl', h1', q⟩ := q
        rw [List.drop_length] at q
        exact ⟨.bl false, H', I', rfl, q⟩
    · exact h2.elim
  · exact h2.elim
end
end Wp

set_option maxHeartbeats 4000000
namespace Wp
open PySem PySem.W L2 PyProof.Rows
theorem str_newO {prog : Program} {w : World} {v : Value} : MeetsIn prog w (Builtin.«str.__new__» ⟨[.type "str", v], []⟩) (fun A R s => wpAny (model prog w) A.in1 (Builtin.Str.strOf v) (fun r s' => R (.ok (.ret r)) s') (fun e s' => R (.error e) s') s) := by
  intro A R s h
  rw [str_new_tree v]
  refine wpAny_bind (wpAny_pure ?_)
  refine wpAny_bind (wpAny_of_eq isSubtype_str_str ?_)
  exact wpAny_bind (wpAny_mono h (fun r s' h' => wpAny_pure h') fun _ _ e => e)
section
variable {X : Cx} {C f : Addr} {k : Nat} {sp : Sp} {E : XK}
theorem strOf_own {prog : Program} {w : World} {A : Around} {E : Value → Shared → Prop} {s : Shared} {K : Frag} {x C f : Addr} {ox : Obj} {od : Option Obj} {Q : Value → Shared → Prop} (hu : A.units < cLine) (X : K.In s.heap) (I : W.InstAt s.heap x ox C od) (hs : findIn K (.ref C) "__str__" = some (some (.ref f))) (hf : isFn K (.ref f) = true)
    (h : wpAny (model prog w) A (call (.ref f) [.ref x]) (fun v s' => ∃ y t, v = .str y t ∧ Q v s') E s) : wpAny (model prog w) A (Builtin.Str.strOf (.ref x)) Q E s := by
  unfold Builtin.Str.strOf
  have e : Builtin.Str.isExactStr (.ref x) = false := rfl
  simp only [e, Bool.false_eq_true, if_false]
  refine wpAny_bind (wpAny_cRoomFor hu ?_)
  refine wpAny_bind (m := callSpecial? (.ref x) (Str.ofString "__str__")) (special_fn X I hs (beq_iff_eq.mp hf) (wpAny_mono h (fun v s' z => ?_) fun _ _ z => z))
  obtain ⟨y, t, rfl, q⟩ := z
  refine wpAny_bind (wpAny_pure ?_)
  simp only [Option.isNone_some, Bool.false_eq_true, if_false]
  exact wpAny_pure q
def rStrO (C : Addr) (sp : Sp) (E : XK) : List V → Hp → VK → Prop := fun vs H Q => match vs with
  | [x] => isIns C H x ∧ sp [x] H (fun v H' => ∃ z, v = .str z ∧ Q (.str z) H') E
  | _ => False
theorem call_strO (hs : findIn X.K (.ref C) "__str__" = some (some (.ref f))) (hf : isFn X.K (.ref f) = true) (F : FnR X.prog X.w X.K X.mg X.base (L2.CX X.prog X.w) k f sp) (hr : Room (k + 2) X.A) (hx : Passes (L2.CX X.prog X.w) X E) : CallR X (.type "str") (rStrO C sp E) := by
  intro pins s σ H xs us Q I r h
  unfold rStrO at h
  split at h
  · rename_i x
    obtain ⟨h1, h3⟩ := h
    obtain ⟨a, dx, fs, rfl, ha⟩ := isIns_get h1
    obtain ⟨u, rfl, ru⟩ := vals1 r
    obtain rfl : u = Value.ref a := ru
    obtain ⟨od, J⟩ := inst_of I ha
    refine callType_newIn PySem.F.called_str (by decide) (PySem.F.typeCall_str_1 _) (PySem.F.newCall_str_1 _) (fun obj => PySem.F.args_object_init_2 obj _) PySem.F.entry_str_new str_newO ?_
    refine strOf_own hr.in1.in1.units0 I.kIn J hs hf ?_
    refine wpAny_mono (run_sub F (A := X.A.in1.in1) ⟨hr.in1.in1, rfl⟩ hx I (vs := [V.ref a]) (.cons rfl .nil) h3) (fun v s' z => ?_) fun _ _ e => e
    obtain ⟨y, H', I', ry, b, rfl, q⟩ := z
    obtain ⟨t, rfl⟩ := ry
    exact ⟨_, _, rfl, typeIs_str _ _ _, .str b, H', I', ⟨t, rfl⟩, q⟩
  · exact h.elim
end
end Wp

set_option maxHeartbeats 4000000
namespace Wp
open PySem PySem.W L2 PyProof.Rows
/-- the heap without one object -/
def hide (D : Addr) (H : Hp) : Hp := fun a => if a = D then none else H a
theorem hide_at {D b : Addr} {H : Hp} {o : HO} (n : b ≠ D) (h : H b = some o) : hide D H b = some o := by
  unfold hide; rw [if_neg n]; exact h
theorem hide_of {D b : Addr} {H : Hp} {o : HO} (h : hide D H b = some o) : H b = some o := by
  unfold hide at h; split at h
  · cases h
  · exact h
theorem hide_ext {D : Addr} {H H' : Hp} (e : Ext H H') : Ext (hide D H) (hide D H') := by
  intro a h
  unfold hide at h ⊢
  split
  · rfl
  · rename_i n
    rw [if_neg n] at h
    exact e a h
theorem hide_le {D : Addr} {H : Hp} : Ext (hide D H) H := by
  intro a h
  unfold hide at h ⊢
  split
  · rename_i n; rw [if_pos n] at h; exact absurd rfl h
  · rfl
theorem hide_upd {D : Addr} {H : Hp} {o : HO} : hide D (upd H D o) = hide D H := by
  funext a
  unfold hide
  split
  · rfl
  · rename_i n; exact upd_ne n
theorem ext_new {H H' : Hp} {D : Addr} {o : HO} (n : H D = none) (e : Ext H H') : Ext H (upd H' D o) := by
  intro a h
  have na : a ≠ D := fun q => h (q ▸ n)
  rw [upd_ne na]
  exact e a h
theorem new_ne {H : Hp} {D b : Addr} {o : HO} (hD : H D = some o) (hb : H b = none) : b ≠ D := fun e => by rw [e, hD] at hb; cases hb
theorem new_ne' {H : Hp} {D b : Addr} {o : HO} (hD : H D = none) (hb : H b = some o) : b ≠ D := fun e => by rw [e, hD] at hb; cases hb
section
variable {g : TG} {tt : TT} {te : TE} {vs : List Nat} {σ : L2.St} {H : Hp} {Q : VK}
/-- the invariant of a comprehension that only makes -/
def LcI (R : Nat → V → Hp → Prop) (H1 : Hp) (D : Addr) (i : Nat) (H : Hp) : Prop := ∃ ys, ys.length = i ∧ H D = some (.lst ys) ∧ Ext H1 H ∧ ∀ j y, ys[j]? = some y → R j y (hide D H)
theorem LcI.next {R : Nat → V → Hp → Prop} (hR : ∀ i y H H', Ext H H' → R i y H → R i y H') {H1 : Hp} {D : Addr} {i n : Nat} {H : Hp} (nD : H1 D = none) (p : LcI R H1 D i H) (hi : i < n) (hn : n ≤ sizeLine) (y : V) (H4 : Hp) (e : Ext H H4) (r : R i y (hide D H4)) :
    ∃ acc, H4 D = some (.lst acc) ∧ acc.length < sizeLine ∧ LcI R H1 D (i + 1) (upd H4 D (.lst (acc ++ [y]))) := by
  obtain ⟨ys, l, hD, x, all⟩ := p
  refine ⟨ys, e.at hD, by omega, ys ++ [y], by simp [l], upd_at, ext_new nD (x.trans e), fun j z hz => ?_⟩
  rw [hide_upd]
  by_cases q : j < i
  · rw [List.getElem?_append_left (by omega)] at hz
    exact hR _ _ _ _ (hide_ext e) (all j z hz)
  · have q2 : j = i := by
      have := (List.getElem?_eq_some_iff.mp hz).1
      simp at this
      omega
    subst q2
    rw [List.getElem?_append_right (by omega), l] at hz
    simp at hz
    exact hz ▸ r
theorem s_lcR {ta : TA} (n : Nat) (R : Nat → V → Hp → Prop) (hR : ∀ i y H H', Ext H H' → R i y H → R i y H') (hn : n ≤ sizeLine)
    (hs : ∀ D i H' (Z : V → Hp → Prop) (W : Hp → Prop), i < n → H D = none → (∃ acc, H' D = some (.lst acc)) → Ext H H' → (∀ y H4, Ext H' H4 → R i y (hide D H4) → Z y H4) → g (.int i) (wipe σ vs) H' fun σ2 H2 => wipe σ2 vs = wipe σ vs ∧ tt σ2 H2 fun b H3 => if b = true then te σ2 H3 Z else W H3)
    (q : ∀ D ys H', H D = none → Ext H H' → H' D = some (.lst ys) → ys.length = n → (∀ j y, ys[j]? = some y → R j y (hide D H')) → Q (.ref D) H') (hta : ∀ K : List V → Hp → Prop, ta σ H K = K [.int (n : Int)] H := by intro; rfl) : tLc (iRng1 ta) g tt te vs σ H Q := by
  show ta σ H _
  rw [hta]
  refine ⟨n, rfl, by have : (sizeLine : Int) < 2 ^ 62 := by decide
                     omega, by have : (sizeLine : Int) < 2 ^ 62 := by decide
                               omega, fun D nD => ?_⟩
  refine lc_range (LcI R H D) ⟨[], rfl, upd_at, ext_new nD (fun _ _ => rfl), fun j y h => by simp at h⟩ (fun i H' hi p => ?_) (fun H' p => ?_)
  · have e : ((0 : Int) + i) = (i : Int) := by omega
    rw [e]
    have hi' : i < n := by simpa using hi
    refine hs D i H' _ _ hi' nD ?_ ?_ (fun y H4 e r => LcI.next hR nD p hi' hn y H4 e r)
    · obtain ⟨ys, _, h, _⟩ := p
      exact ⟨ys, h⟩
    · obtain ⟨ys, _, _, x, _⟩ := p; exact x
  · obtain ⟨ys, l, h, x, all⟩ := p
    exact q D ys H' nD x h (by simpa using l) all
theorem s_lcL {K : PySem.W.Frag} {tl : TE} {a : Addr} {xs : List V} (R : Nat → V → Hp → Prop) (hR : ∀ i y H H', Ext H H' → R i y H → R i y H') (hl : H a = some (.lst xs)) (hn : xs.length ≤ sizeLine)
    (hs : ∀ D i x H' (Z : V → Hp → Prop) (W : Hp → Prop), xs[i]? = some x → H D = none → (∃ acc, H' D = some (.lst acc)) → Ext H H' → (∀ y H4, Ext H' H4 → R i y (hide D H4) → Z y H4) → g x (wipe σ vs) H' fun σ2 H2 => wipe σ2 vs = wipe σ vs ∧ tt σ2 H2 fun b H3 => if b = true then te σ2 H3 Z else W H3)
    (q : ∀ D ys H', H D = none → Ext H H' → H' D = some (.lst ys) → ys.length = xs.length → (∀ j y, ys[j]? = some y → R j y (hide D H')) → Q (.ref D) H') (hta : ∀ K : V → Hp → Prop, tl σ H K = K (.ref a) H := by intro; exact e_var rfl) : tLc (iList K tl) g tt te vs σ H Q := by
  show tl σ H _
  rw [hta]
  refine ⟨a, rfl, ⟨xs, .inl (.inl hl)⟩, fun D nD => ?_⟩
  refine lc_list (K := K) (xs := xs) (LcI R H D) ⟨[], rfl, upd_at, ext_new nD (fun _ _ => rfl), fun j y h => by simp at h⟩ (fun i H' _ p => ?_) (fun i x H' hx p => ?_) (fun H' p => ?_)
  · obtain ⟨_, _, _, e, _⟩ := p
    exact .inl (.inl (e.at hl))
  · have hi' : i < xs.length := (List.getElem?_eq_some_iff.mp hx).1
    refine hs D i x H' _ _ hx nD ?_ ?_ (fun y H4 e r => LcI.next hR nD p hi' hn y H4 e r)
    · obtain ⟨ys, _, h, _⟩ := p
      exact ⟨ys, h⟩
    · obtain ⟨ys, _, _, x, _⟩ := p; exact x
  · obtain ⟨ys, l, h, x, all⟩ := p
    exact q D ys H' nD x h l all
end
theorem ins_hide {H H' : Hp} {D b C dx : Addr} {fs : List (Str × V)} (hD : ∃ acc, H D = some (.lst acc)) (e : Ext H H') (h : H' b = some (.ins C dx fs)) : hide D H' b = some (.ins C dx fs) := by
  obtain ⟨acc, hD⟩ := hD
  refine hide_at (fun q => ?_) h
  rw [q, e.at hD] at h
  cases h
theorem tup_hide {H H' : Hp} {D b : Addr} {xs : List V} (hD : ∃ acc, H D = some (.lst acc)) (e : Ext H H') (h : H' b = some (.tup xs)) : hide D H' b = some (.tup xs) := by
  obtain ⟨acc, hD⟩ := hD
  refine hide_at (fun q => ?_) h
  rw [q, e.at hD] at h
  cases h
theorem new_hide {H H' : Hp} {D b : Addr} {o : HO} (hD : ∃ acc, H D = some (.lst acc)) (n : H b = none) (h : H' b = some o) : hide D H' b = some o := by
  obtain ⟨acc, hD⟩ := hD
  exact hide_at (new_ne hD n) h
/-- a row of values, read as data -/
theorem d_all {H : Hp} {n : Nat} {d : Nat → PyData} : ∀ (ys : List V) (k : Nat), (∀ j y, ys[j]? = some y → toD H n y = some (d (k + j))) → toDs H n ys = some ((List.range' k ys.length).map d)
  | [], k, h => by simp only [toDs, List.length_nil, List.range'_zero, List.map_nil]
  | y :: ys, k, h => by
    have h0 : toD H n y = some (d k) := by simpa using h 0 y rfl
    have := d_all ys (k + 1) (fun j z hz => by have := h (j + 1) z (by simpa using hz); rwa [show k + (j + 1) = k + 1 + j by omega] at this)
    simp only [toDs, h0, this, List.length_cons, List.range'_succ, List.map_cons]
theorem d_map {H : Hp} {n : Nat} {d : Nat → PyData} {ys : List V} (h : ∀ j y, ys[j]? = some y → toD H n y = some (d j)) : toDs H n ys = some ((List.range ys.length).map d) := by
  have := d_all (d := d) ys 0 (fun j y hy => by simpa using h j y hy)
  rwa [← List.range_eq_range'] at this
mutual
theorem toD_ext {H H' : Hp} (e : Ext H H') : ∀ (n : Nat) (v : V) (d : PyData), toD H n v = some d → toD H' n v = some d
  | 0, v, d, h => by
    cases v <;> simp only [toD] at h ⊢ <;> first | exact h | cases h
  | n + 1, v, d, h => by
    cases v with
    | ref a =>
      simp only [toD] at h ⊢
      cases q : H a with
      | none => rw [q] at h; cases h
      | some o =>
        rw [q] at h
        rw [e.at q]
        split at h <;> first
          | (rename_i q2; cases q2
             obtain ⟨ds, h1, h2⟩ := Option.map_eq_some_iff.mp h
             simp only [toDs_ext e n _ ds h1, ← h2, Option.map_some])
          | cases h
    | _ => simp only [toD] at h ⊢; exact h
theorem toDs_ext {H H' : Hp} (e : Ext H H') : ∀ (n : Nat) (vs : List V) (ds : List PyData), toDs H n vs = some ds → toDs H' n vs = some ds
  | n, [], ds, h => by simp only [toDs] at h ⊢; exact h
  | n, v :: vs, ds, h => by
    simp only [toDs] at h ⊢
    cases q : toD H n v with
    | none => rw [q] at h; cases h
    | some d =>
      rw [q] at h
      cases q2 : toDs H n vs with
      | none => rw [q2] at h; cases h
      | some ds2 =>
        rw [q2] at h
        rw [toD_ext e n v d q, toDs_ext e n vs ds2 q2]
        exact h
end
/-- one road of two that go on alike -/
theorem if_join {p : Bool} {dp : Decidable (p = true)} {H0 : Hp} {A R : Hp → Prop} (h : ∀ H, Ext H0 H → R H) (ha : p = true → (∀ H, Ext H0 H → R H) → ∀ H, Ext H0 H → A H) : ∀ H, Ext H0 H → @ite _ (p = true) dp (A H) (R H) := by
  intro H x
  split
  · rename_i q; exact ha q h H x
  · exact h H x
end Wp

namespace Wp
def gcdI (t b : Int) : Int := ((Nat.gcd t.natAbs b.natAbs : Nat) : Int)
def partI (t b : Int) : Int := if 0 < b then gcdI t b else -gcdI t b
def lowT (t b : Int) : Int := t.fdiv (partI t b)
def lowB (t b : Int) : Int := b.fdiv (partI t b)
theorem gcdI_pos {t b : Int} (hb : b ≠ 0) : 0 < gcdI t b := by
  unfold gcdI
  have : 0 < Nat.gcd t.natAbs b.natAbs := Nat.gcd_pos_of_pos_right _ (by omega)
  omega
theorem partI_ne {t b : Int} (hb : b ≠ 0) : partI t b ≠ 0 := by
  have := gcdI_pos (t := t) hb
  unfold partI
  split <;> omega
theorem gcdI_dvd_l (t b : Int) : gcdI t b ∣ t := Int.ofNat_dvd_left.mpr (Nat.gcd_dvd_left _ _)
theorem gcdI_dvd_r (t b : Int) : gcdI t b ∣ b := Int.ofNat_dvd_left.mpr (Nat.gcd_dvd_right _ _)
theorem partI_dvd_l (t b : Int) : partI t b ∣ t := by
  unfold partI; split
  · exact gcdI_dvd_l t b
  · exact Int.neg_dvd.mpr (gcdI_dvd_l t b)
theorem partI_dvd_r (t b : Int) : partI t b ∣ b := by
  unfold partI; split
  · exact gcdI_dvd_r t b
  · exact Int.neg_dvd.mpr (gcdI_dvd_r t b)
theorem lowT_eq {t b : Int} (hb : b ≠ 0) : partI t b * lowT t b = t := by
  unfold lowT
  exact Int.mul_fdiv_cancel' (partI_dvd_l t b)
theorem lowB_eq {t b : Int} (hb : b ≠ 0) : partI t b * lowB t b = b := by
  unfold lowB
  exact Int.mul_fdiv_cancel' (partI_dvd_r t b)
theorem lowB_pos {t b : Int} (hb : b ≠ 0) : 0 < lowB t b := by
  have e := lowB_eq (t := t) hb
  have g := gcdI_pos (t := t) hb
  unfold partI at e
  split at e
  · rename_i h
    exact Int.pos_of_mul_pos_left (by rw [Int.mul_comm, e]; exact h) g
  · rename_i h
    have h2 : gcdI t b * lowB t b = -b := by rw [Int.neg_mul] at e; omega
    exact Int.pos_of_mul_pos_left (by rw [Int.mul_comm, h2]; omega) g
theorem low_cop {t b : Int} (hb : b ≠ 0) : Nat.Coprime (lowT t b).natAbs (lowB t b).natAbs := by
  have e1 := congrArg Int.natAbs (lowT_eq (t := t) hb)
  have e2 := congrArg Int.natAbs (lowB_eq (t := t) hb)
  rw [Int.natAbs_mul] at e1 e2
  have g := gcdI_pos (t := t) hb
  have hg : (partI t b).natAbs = Nat.gcd t.natAbs b.natAbs := by
    unfold partI gcdI; split <;> simp
  rw [hg] at e1 e2
  have gp : 0 < Nat.gcd t.natAbs b.natAbs := Nat.gcd_pos_of_pos_right _ (by omega)
  have : Nat.gcd t.natAbs b.natAbs * Nat.gcd (lowT t b).natAbs (lowB t b).natAbs = Nat.gcd t.natAbs b.natAbs := by
    rw [← Nat.gcd_mul_left, e1, e2]
  exact Nat.eq_of_mul_eq_mul_left gp (by rw [this, Nat.mul_one])
theorem cop_uniq {x y x' y' : Int} (hy : 0 < y) (hy' : 0 < y') (c : Nat.Coprime x.natAbs y.natAbs) (c' : Nat.Coprime x'.natAbs y'.natAbs) (h : x * y' = x' * y) : x = x' ∧ y = y' := by
  have hn := congrArg Int.natAbs h
  rw [Int.natAbs_mul, Int.natAbs_mul] at hn
  have d1 : y.natAbs ∣ y'.natAbs := c.symm.dvd_of_dvd_mul_left (by rw [hn]; exact Nat.dvd_mul_left _ _)
  have d2 : y'.natAbs ∣ y.natAbs := c'.symm.dvd_of_dvd_mul_left (by rw [← hn]; exact Nat.dvd_mul_left _ _)
  have e : y.natAbs = y'.natAbs := Nat.dvd_antisymm d1 d2
  have ey : y = y' := by omega
  subst ey
  exact ⟨Int.eq_of_mul_eq_mul_right (by omega) h, rfl⟩
theorem low_uniq {t b t' b' : Int} (hb : b ≠ 0) (hb' : b' ≠ 0) (h : t * b' = t' * b) : lowT t b = lowT t' b' ∧ lowB t b = lowB t' b' := by
  refine cop_uniq (lowB_pos hb) (lowB_pos hb') (low_cop hb) (low_cop hb') ?_
  have e1 := lowT_eq (t := t) hb
  have e2 := lowB_eq (t := t) hb
  have e3 := lowT_eq (t := t') hb'
  have e4 := lowB_eq (t := t') hb'
  have p1 := partI_ne (t := t) hb
  have p2 := partI_ne (t := t') hb'
  have p : partI t b * partI t' b' ≠ 0 := Int.mul_ne_zero p1 p2
  apply Int.eq_of_mul_eq_mul_left p
  have : partI t b * partI t' b' * (lowT t b * lowB t' b') = (partI t b * lowT t b) * (partI t' b' * lowB t' b') := by simp only [Int.mul_assoc, Int.mul_left_comm, Int.mul_comm]
  rw [this, e1, e4, h]
  have : partI t b * partI t' b' * (lowT t' b' * lowB t b) = (partI t' b' * lowT t' b') * (partI t b * lowB t b) := by simp only [Int.mul_assoc, Int.mul_left_comm, Int.mul_comm]
  rw [this, e3, e2]
theorem lowT_abs {t b : Int} (hb : b ≠ 0) : (lowT t b).natAbs ≤ t.natAbs := by
  have e := congrArg Int.natAbs (lowT_eq (t := t) hb)
  rw [Int.natAbs_mul] at e
  have p := partI_ne (t := t) hb
  rw [← e]
  exact Nat.le_mul_of_pos_left _ (by omega)
theorem lowB_abs {t b : Int} (hb : b ≠ 0) : (lowB t b).natAbs ≤ b.natAbs := by
  have e := congrArg Int.natAbs (lowB_eq (t := t) hb)
  rw [Int.natAbs_mul] at e
  have p := partI_ne (t := t) hb
  rw [← e]
  exact Nat.le_mul_of_pos_left _ (by omega)
/-- the cross product of a fraction and its lowest terms -/
theorem low_cross {t b : Int} (hb : b ≠ 0) : lowT t b * b = t * lowB t b := by
  have e1 := lowT_eq (t := t) hb
  have e2 := lowB_eq (t := t) hb
  have p := partI_ne (t := t) hb
  apply Int.eq_of_mul_eq_mul_left p
  rw [← Int.mul_assoc, e1, Int.mul_left_comm, e2]
section
variable {a b c d k : Int}
theorem pos_ne {x : Int} (h : 0 < x) : x ≠ 0 := by omega
theorem low_neg (hb : b ≠ 0) : lowT (-lowT a b) (lowB a b) = lowT (0 - a) b ∧ lowB (-lowT a b) (lowB a b) = lowB (0 - a) b := by
  refine low_uniq (pos_ne (lowB_pos hb)) hb ?_
  have c1 := low_cross (t := a) hb
  rw [Int.zero_sub, Int.neg_mul, Int.neg_mul, c1]
theorem crs1 (hb : b ≠ 0) : ∀ y : Int, lowT a b * y * b = a * (lowB a b * y) := fun y => by
  have c1 := low_cross (t := a) hb
  have : lowT a b * y * b = lowT a b * b * y := by ac_rfl
  rw [this, c1]; ac_rfl
theorem low_add (hb : b ≠ 0) (hd : d ≠ 0) : lowT (lowT a b * lowB c d + lowT c d * lowB a b) (lowB a b * lowB c d) = lowT (a * d + c * b) (b * d) ∧ lowB (lowT a b * lowB c d + lowT c d * lowB a b) (lowB a b * lowB c d) = lowB (a * d + c * b) (b * d) := by
  refine low_uniq (Int.mul_ne_zero (pos_ne (lowB_pos hb)) (pos_ne (lowB_pos hd))) (Int.mul_ne_zero hb hd) ?_
  have c1 := low_cross (t := a) hb
  have c2 := low_cross (t := c) hd
  rw [Int.add_mul, Int.add_mul]
  have e1 : lowT a b * lowB c d * (b * d) = (lowT a b * b) * (lowB c d * d) := by ac_rfl
  have e2 : lowT c d * lowB a b * (b * d) = (lowT c d * d) * (lowB a b * b) := by ac_rfl
  rw [e1, e2, c1, c2]
  congr 1 <;> ac_rfl
theorem low_sub (hb : b ≠ 0) (hd : d ≠ 0) : lowT (lowT a b * lowB c d - lowT c d * lowB a b) (lowB a b * lowB c d) = lowT (a * d - c * b) (b * d) ∧ lowB (lowT a b * lowB c d - lowT c d * lowB a b) (lowB a b * lowB c d) = lowB (a * d - c * b) (b * d) := by
  refine low_uniq (Int.mul_ne_zero (pos_ne (lowB_pos hb)) (pos_ne (lowB_pos hd))) (Int.mul_ne_zero hb hd) ?_
  have c1 := low_cross (t := a) hb
  have c2 := low_cross (t := c) hd
  rw [Int.sub_mul, Int.sub_mul]
  have e1 : lowT a b * lowB c d * (b * d) = (lowT a b * b) * (lowB c d * d) := by ac_rfl
  have e2 : lowT c d * lowB a b * (b * d) = (lowT c d * d) * (lowB a b * b) := by ac_rfl
  rw [e1, e2, c1, c2]
  congr 1 <;> ac_rfl
theorem low_mul (hb : b ≠ 0) (hd : d ≠ 0) : lowT (lowT a b * lowT c d) (lowB a b * lowB c d) = lowT (a * c) (b * d) ∧ lowB (lowT a b * lowT c d) (lowB a b * lowB c d) = lowB (a * c) (b * d) := by
  refine low_uniq (Int.mul_ne_zero (pos_ne (lowB_pos hb)) (pos_ne (lowB_pos hd))) (Int.mul_ne_zero hb hd) ?_
  have c1 := low_cross (t := a) hb
  have c2 := low_cross (t := c) hd
  have e1 : lowT a b * lowT c d * (b * d) = (lowT a b * b) * (lowT c d * d) := by ac_rfl
  rw [e1, c1, c2]; ac_rfl
theorem low_zero (hb : b ≠ 0) : lowT a b = 0 ↔ a = 0 := by
  have c1 := low_cross (t := a) hb
  constructor
  · intro h
    rw [h, Int.zero_mul] at c1
    rcases Int.mul_eq_zero.mp c1.symm with h | h
    · exact h
    · exact absurd h (pos_ne (lowB_pos hb))
  · intro h
    rw [h, Int.zero_mul] at c1
    rcases Int.mul_eq_zero.mp c1 with h | h
    · rw [← ‹a = 0›] at h; exact h.trans (by assumption)
    · exact absurd h hb
theorem low_over (hb : b ≠ 0) (hd : d ≠ 0) (hc : c ≠ 0) : lowT (lowT a b * lowB c d) (lowB a b * lowT c d) = lowT (a * d) (b * c) ∧ lowB (lowT a b * lowB c d) (lowB a b * lowT c d) = lowB (a * d) (b * c) := by
  have hz : lowT c d ≠ 0 := fun h => hc ((low_zero hd).mp h)
  refine low_uniq (Int.mul_ne_zero (pos_ne (lowB_pos hb)) hz) (Int.mul_ne_zero hb hc) ?_
  have c1 := low_cross (t := a) hb
  have c2 := low_cross (t := c) hd
  have e1 : lowT a b * lowB c d * (b * c) = (lowT a b * b) * (c * lowB c d) := by ac_rfl
  rw [e1, c1, ← c2]; ac_rfl
theorem low_eq (hb : b ≠ 0) (hd : d ≠ 0) : (lowT a b == lowT c d && lowB a b == lowB c d) = (a * d == c * b) := by
  rw [Bool.eq_iff_iff, Bool.and_eq_true, beq_iff_eq, beq_iff_eq, beq_iff_eq]
  constructor
  · rintro ⟨h1, h2⟩
    have c1 := low_cross (t := a) hb
    have c2 := low_cross (t := c) hd
    rw [← h1, ← h2] at c2
    apply Int.eq_of_mul_eq_mul_right (pos_ne (lowB_pos (t := a) hb))
    have e1 : a * d * lowB a b = (a * lowB a b) * d := by ac_rfl
    have e2 : c * b * lowB a b = (c * lowB a b) * b := by ac_rfl
    rw [e1, e2, ← c1, ← c2]; ac_rfl
  · exact fun h => low_uniq hb hd h
theorem low_one : lowT k 1 = k ∧ lowB k 1 = 1 := by
  have e1 := lowT_eq (t := k) (b := 1) (by decide)
  have e2 := lowB_eq (t := k) (b := 1) (by decide)
  have p : partI k 1 = 1 := by unfold partI gcdI; simp
  rw [p] at e1 e2
  exact ⟨by simpa using e1, by simpa using e2⟩
theorem low_addk (hb : b ≠ 0) : lowT (lowT a b * 1 + k * lowB a b) (lowB a b * 1) = lowT (a + k * b) b ∧ lowB (lowT a b * 1 + k * lowB a b) (lowB a b * 1) = lowB (a + k * b) b := by
  have h := low_add (a := a) (c := k) (d := 1) hb (by decide)
  simp only [low_one.1, low_one.2, Int.mul_one] at h ⊢
  exact h
theorem low_subk (hb : b ≠ 0) : lowT (lowT a b * 1 - k * lowB a b) (lowB a b * 1) = lowT (a - k * b) b ∧ lowB (lowT a b * 1 - k * lowB a b) (lowB a b * 1) = lowB (a - k * b) b := by
  have h := low_sub (a := a) (c := k) (d := 1) hb (by decide)
  simp only [low_one.1, low_one.2, Int.mul_one] at h ⊢
  exact h
theorem low_rsubk (hb : b ≠ 0) : lowT (k * lowB a b - lowT a b * 1) (lowB a b * 1) = lowT (k * b - a) b ∧ lowB (k * lowB a b - lowT a b * 1) (lowB a b * 1) = lowB (k * b - a) b := by
  have h := low_sub (a := k) (b := 1) (c := a) (d := b) (by decide) hb
  simp only [low_one.1, low_one.2, Int.mul_one, Int.one_mul] at h ⊢
  exact h
theorem low_mulk (hb : b ≠ 0) : lowT (lowT a b * k) (lowB a b * 1) = lowT (a * k) b ∧ lowB (lowT a b * k) (lowB a b * 1) = lowB (a * k) b := by
  have h := low_mul (a := a) (c := k) (d := 1) hb (by decide)
  simp only [low_one.1, low_one.2, Int.mul_one] at h ⊢
  exact h
theorem low_overk (hb : b ≠ 0) (hk : k ≠ 0) : lowT (lowT a b * 1) (lowB a b * k) = lowT a (b * k) ∧ lowB (lowT a b * 1) (lowB a b * k) = lowB a (b * k) := by
  have h := low_over (a := a) (c := k) (d := 1) hb (by decide) hk
  simp only [low_one.1, low_one.2, Int.mul_one] at h ⊢
  exact h
theorem low_eqk (hb : b ≠ 0) : (lowB a b == 1 && lowT a b == k) = (a == k * b) := by
  have h := low_eq (a := a) (c := k) (d := 1) hb (by decide)
  simp only [low_one.1, low_one.2, Int.mul_one] at h
  rw [Bool.and_comm]
  exact h
end
end Wp

namespace Wp
theorem low_idem {a b : Int} (hb : b ≠ 0) : lowT (lowT a b) (lowB a b) = lowT a b ∧ lowB (lowT a b) (lowB a b) = lowB a b := low_uniq (pos_ne (lowB_pos hb)) hb (low_cross hb)
/-- the rest of one fraction by another, from its parts -/
def modT (t1 b1 t2 b2 : Int) : Int := t1 * b2 - (t1 * b2).fdiv (b1 * t2) * t2 * b1
theorem modT_eq (A B C D : Int) : modT A B C D = (A * D).fmod (B * C) := by
  unfold modT
  have h := Int.fmod_add_mul_fdiv (A * D) (B * C)
  have e : (A * D).fdiv (B * C) * C * B = B * C * (A * D).fdiv (B * C) := by ac_rfl
  rw [e]
  omega
theorem mod_sub {a b c d : Int} (hb : b ≠ 0) (hd : d ≠ 0) (W : Int) (hW : W = (lowT a b * lowB c d).fdiv (lowB a b * lowT c d)) :
    lowT (lowT a b * lowB (lowT c d * W) (lowB c d * 1) - lowT (lowT c d * W) (lowB c d * 1) * lowB a b) (lowB a b * lowB (lowT c d * W) (lowB c d * 1)) = lowT (modT (lowT a b) (lowB a b) (lowT c d) (lowB c d)) (lowB a b * lowB c d) ∧
    lowB (lowT a b * lowB (lowT c d * W) (lowB c d * 1) - lowT (lowT c d * W) (lowB c d * 1) * lowB a b) (lowB a b * lowB (lowT c d * W) (lowB c d * 1)) = lowB (modT (lowT a b) (lowB a b) (lowT c d) (lowB c d)) (lowB a b * lowB c d) := by
  have zb := pos_ne (lowB_pos (t := a) hb)
  have zd := pos_ne (lowB_pos (t := c) hd)
  have h := low_sub (a := lowT a b) (b := lowB a b) (c := lowT c d * W) (d := lowB c d * 1) zb (by rw [Int.mul_one]; exact zd)
  rw [(low_idem hb).1, (low_idem hb).2] at h
  have e : lowT a b * (lowB c d * 1) - lowT c d * W * lowB a b = modT (lowT a b) (lowB a b) (lowT c d) (lowB c d) := by
    unfold modT
    rw [Int.mul_one, ← hW, Int.mul_comm (lowT c d) W]
  rw [e, Int.mul_one] at h
  rw [Int.mul_one]
  exact h
theorem mod_pos {A B C D : Int} (hB : 0 < B) (hD : 0 < D) (hC : 0 < C) : 0 ≤ lowT (modT A B C D) (B * D) ∧ lowT (modT A B C D) (B * D) * D < C * lowB (modT A B C D) (B * D) := by
  have hBD : 0 < B * D := Int.mul_pos hB hD
  have hBC : 0 < B * C := Int.mul_pos hB hC
  have cr := low_cross (t := modT A B C D) (pos_ne hBD)
  have lp := lowB_pos (t := modT A B C D) (pos_ne hBD)
  have m0 : 0 ≤ modT A B C D := by rw [modT_eq]; exact Int.fmod_nonneg_of_pos _ hBC
  have m1 : modT A B C D < B * C := by rw [modT_eq]; exact Int.fmod_lt_of_pos _ hBC
  generalize modT A B C D = M at *
  generalize lowT M (B * D) = t at *
  generalize lowB M (B * D) = l at *
  refine ⟨?_, ?_⟩
  · refine Int.le_of_mul_le_mul_right (?_ : 0 * (B * D) ≤ t * (B * D)) hBD
    rw [Int.zero_mul, cr]
    exact Int.mul_nonneg m0 (by omega)
  · refine Int.lt_of_mul_lt_mul_right (?_ : t * D * B < C * l * B) (by omega)
    have e1 : t * D * B = M * l := by rw [← cr]; ac_rfl
    have e2 : C * l * B = B * C * l := by ac_rfl
    rw [e1, e2]
    exact Int.mul_lt_mul_of_pos_right m1 lp
theorem mod_neg {A B C D : Int} (hB : 0 < B) (hD : 0 < D) (hC : C < 0) : lowT (modT A B C D) (B * D) ≤ 0 ∧ C * lowB (modT A B C D) (B * D) < lowT (modT A B C D) (B * D) * D := by
  have e : modT A B C D = -modT (-A) B (-C) D := by
    unfold modT
    have q : (-A * D).fdiv (B * -C) = (A * D).fdiv (B * C) := by
      rw [Int.neg_mul, Int.mul_neg, Int.neg_fdiv_neg]
    rw [q]
    simp only [Int.neg_mul, Int.mul_neg]
    omega
  have h := mod_pos (A := -A) (B := B) (C := -C) (D := D) hB hD (by omega)
  have hBD : B * D ≠ 0 := pos_ne (Int.mul_pos hB hD)
  have n := low_neg (a := modT (-A) B (-C) D) hBD
  have lt : lowT (modT A B C D) (B * D) = -lowT (modT (-A) B (-C) D) (B * D) ∧ lowB (modT A B C D) (B * D) = lowB (modT (-A) B (-C) D) (B * D) := by
    have c1 := low_cross (t := modT A B C D) hBD
    refine cop_uniq (lowB_pos hBD) (lowB_pos hBD) (low_cop hBD) ?_ ?_
    · rw [Int.natAbs_neg]; exact low_cop hBD
    · have c2 := low_cross (t := modT (-A) B (-C) D) hBD
      apply Int.eq_of_mul_eq_mul_right hBD
      have e1 : lowT (modT A B C D) (B * D) * lowB (modT (-A) B (-C) D) (B * D) * (B * D) = (lowT (modT A B C D) (B * D) * (B * D)) * lowB (modT (-A) B (-C) D) (B * D) := by ac_rfl
      have e2 : -lowT (modT (-A) B (-C) D) (B * D) * lowB (modT A B C D) (B * D) * (B * D) = -(lowT (modT (-A) B (-C) D) (B * D) * (B * D)) * lowB (modT A B C D) (B * D) := by
        simp only [Int.neg_mul]
        congr 1
        ac_rfl
      rw [e1, e2, c1, c2, e]
      simp only [Int.neg_mul]
      congr 1
      ac_rfl
  rw [lt.1, lt.2]
  generalize lowT (modT (-A) B (-C) D) (B * D) = t at *
  generalize lowB (modT (-A) B (-C) D) (B * D) = l at *
  refine ⟨by omega, ?_⟩
  have := h.2
  rw [Int.neg_mul] at this ⊢
  omega
theorem fmod_abs {x y : Int} (h : y ≠ 0) : (x.fmod y).natAbs < y.natAbs := by
  rcases Int.lt_trichotomy y 0 with q | q | q
  · have e : (-x).fmod (-y) = -(x.fmod y) := Int.neg_fmod_neg x y
    have h1 := Int.fmod_nonneg_of_pos (-x) (show 0 < -y by omega)
    have h2 := Int.fmod_lt_of_pos (-x) (show 0 < -y by omega)
    rw [e] at h1 h2
    omega
  · exact absurd q h
  · have h1 := Int.fmod_nonneg_of_pos x q
    have h2 := Int.fmod_lt_of_pos x q
    omega
end Wp

set_option maxHeartbeats 4000000
namespace Wp
open PySem PySem.W L2 PyProof.Rows
/-! ### the head's Hook with a row of Bools of one's own -/
abbrev AlY : Type := He.AlD × Bool
def obsY (n : Nat) (fa : List He.Fa) (fn : List He.DefD) (ex : Frag → List Bool) (g : Addr → Option Obj) : AlY := (He.obsD fa fn (He.frG g (He.asD g n)), (ex (He.frG g (He.asD g n))).all id)
structure SaysY (fa : List He.Fa) (fn : List He.DefD) (ex : Frag → List Bool) (K : Frag) : Prop where
  d : He.SaysD fa fn K
  more : (ex K).all id = true
def hookY (n : Nat) (fa : List He.Fa) (fn : List He.DefD) (ex : Frag → List Bool) : PySem.W.Hook where
  α := AlY
  obs := fun s => obsY n fa fn ex s.heap.get?
  val := fun _ => (He.valD fn, true)
  says := fun _ h => ∃ K : Frag, K.In h ∧ SaysY fa fn ex K
  of := fun _ _ e => ⟨_, He.frG_in, ⟨congrArg (fun z : AlY => z.1) e, congrArg (fun z : AlY => z.2) e⟩⟩
  keeps := fun _ _ _ ⟨K, hK, c⟩ k => ⟨K, PySem.W.Frag.In.keeps hK k, c⟩
theorem obsY_eq {n : Nat} {fa : List He.Fa} {fn : List He.DefD} {ex : Frag → List Bool} {g : Addr → Option Obj} {s : Shared} (h : ∀ a, g a = s.heap.get? a) : obsY n fa fn ex g = (hookY n fa fn ex).obs s := by
  have e : g = s.heap.get? := funext h
  rw [e] <;> rfl
theorem SaysY.at {fa : List He.Fa} {fn : List He.DefD} {ex : Frag → List Bool} {K : Frag} (c : SaysY fa fn ex K) (i : Nat) {b : Bool} (h : (ex K)[i]? = some b := by rfl) : b = true := List.all_eq_true.mp c.more b (List.mem_of_getElem? h)
/-! ### binding by keywords -/
theorem kb_one {K : Frag} {x qual : Str} {params : Arguments} {body : List Stmt} {scope : Scope} {kws : List (Str × V)} {f : Addr} {fd : FuncData} {ps ks : List Str} {n : Nat} (F : FunD K x qual params body scope [] kws f fd)
    (h : ∀ (kV doc pm : Value) (an : Option Addr) (cdv ct : Value) (us ws : List Value), us.length = n → ws.length = ks.length → bindArgs (PySem.W.fnOf x qual params body scope .none kV doc pm an cdv ct) ⟨us, ks.zip ws⟩ = pure (ps.zip (us ++ ws))) : KBn K fd ps n ks (fun us ws => us ++ ws) (fun vs zs => vs ++ zs) := by
  obtain ⟨oc, od, dV, kV, doc, pm, an, cdv, ct, osl, rfl, lk, hcd, hD, hK⟩ := F.ex
  rcases hD with ⟨_, rfl⟩ | ⟨e, _⟩
  · exact ⟨fun s us ws _ l1 l2 => .of_eq (h kV doc pm an cdv ct us ws l1 l2), fun r1 r2 => r1.append r2⟩
  · exact absurd rfl e
theorem kb_rev {K : Frag} {x qual : Str} {params : Arguments} {body : List Stmt} {scope : Scope} {dvs : List V} {kws : List (Str × V)} {f : Addr} {fd : FuncData} {ps ks : List Str} {n : Nat} (F : FunD K x qual params body scope dvs kws f fd) (hd : dvs ≠ [])
    (h : ∀ (T : Addr) (kV doc pm : Value) (an : Option Addr) (cdv ct : Value) (us ws its : List Value), us.length = n → ws.length = ks.length → its.length = dvs.length → ∃ k, bindArgs (PySem.W.fnOf x qual params body scope (.ref T) kV doc pm an cdv ct) ⟨us, ks.zip ws⟩ = seqItems? (.ref T) >>= k ∧ k (some its.toArray) = pure (ps.zip (us ++ ws.reverse))) : KBn K fd ps n ks (fun us ws => us ++ ws.reverse) (fun vs zs => vs ++ zs.reverse) := by
  obtain ⟨oc, od, dV, kV, doc, pm, an, cdv, ct, osl, rfl, lk, hcd, hD, hK⟩ := F.ex
  rcases hD with ⟨e, _⟩ | ⟨_, T, o, its, m, rfl, lT, oT, rT⟩
  · exact absurd e hd
  · refine ⟨fun s us ws X l1 l2 => ?_, fun r1 r2 => r1.append r2.reverse⟩
    obtain ⟨k, e1, e2⟩ := h T kV doc pm an cdv ct us ws its l1 l2 rT.length.symm
    refine BindsTo.of_looks fun M => ?_
    rw [e1]
    exact looks_items X lT oT (.of_pure e2)
/-- the law's end; what an exception does may hang on the world -/
theorem walk_w {l : PySem.W.OpenLaw} {n k : Nat} {q : Program} {loose : List Str} {XP : (Str → Option Value) → Heap → Prop} {YP : World → Heap → Prop} {d : DefRec} {CX : World → CXT} {x : Str}
    (hn : l.most = some n) (hn2 : n ≤ sizeLine) (hdf : d.params.defaults = []) (hr : Room k callerA)
    (F : ∀ (w : World) (mg : Str → Option Value) (fa : Addr) (h : Heap), YP w h → h.Ns mainGlobals mg → mg d.name = some (.ref fa) →
      ∃ (K : Frag) (fd : FuncData) (sp : Sp), K.In h ∧ (∀ (s : Shared) (u : Value), BindsTo s fd ⟨[u], []⟩ [(x, u)]) ∧
        (∀ (H : Hp) (a : Addr) (ns : List Int), ns.length ≤ n → Only H → SqL K H a (ns.map V.int) → sp [.ref a] H (fun v _ => v = .bl true) fun _ _ _ => False) ∧
        ∀ base : Heap, K.In base → base.Ns mainGlobals mg → FnOk l.prog w K mg base (CX w) k fa fd [x] sp)
    (hCX : ∀ (w : World) (H : Hp) (s : Shared) (e : Value) (s' : Shared), CX w [] H s (fun _ _ _ => False) e s' → False) :
    PySem.W.WalkO q loose XP YP l.row.toRowW d [] (fun f vs => PySem.call f vs) := by
  refine Att.attach_call hn hdf fun w s₀ s₁ mg mb fa o pm cd doc a vs ns G Y ho hd hcd hmg hobj hints hlen hg => ?_
  have ⟨K, fd, sp, KX, hb, hsp, hF⟩ := F w mg fa _ Y G.T.g hmg
  exact law_call KX G.T.g G.T.b G.T.builtins G.T.nolimit hg hobj hints (Nat.le_trans hlen hn2) hr hF hb (fun H hO hS => hsp H a ns hlen hO hS) (fun H e s' => hCX w H s₁ e s')
/-- a def of the module, by positions -/
theorem gf_of {P : Program} {w : World} {K : Frag} {mg : Str → Option Value} {base : Heap} {k : Nat} {x name qual : Str} {params : Arguments} {body : List Stmt} {scope : Scope} {kws : List (Str × V)} {f : Addr} {fd : FuncData} {ps : List Str} {sp : Sp} (F : FunD K name qual params body scope [] kws f fd) (hm : mg x = some (.ref f)) (ok : FnOk P w K mg base (L2.CX P w) k f fd ps sp)
    (h : ∀ (kV doc pm : Value) (an : Option Addr) (cdv ct : Value) (us : List Value), us.length = ps.length → bindArgs (PySem.W.fnOf name qual params body scope .none kV doc pm an cdv ct) ⟨us, []⟩ = pure (ps.zip us)) : GF P w K mg base k x sp := ⟨f, hm, F.kp, fnR_of ok (F.bindsN h)⟩
theorem fr_of {P : Program} {w : World} {K : Frag} {mg : Str → Option Value} {base : Heap} {k : Nat} {name qual : Str} {params : Arguments} {body : List Stmt} {scope : Scope} {kws : List (Str × V)} {f : Addr} {fd : FuncData} {ps : List Str} {sp : Sp} (F : FunD K name qual params body scope [] kws f fd) (ok : FnOk P w K mg base (L2.CX P w) k f fd ps sp)
    (h : ∀ (kV doc pm : Value) (an : Option Addr) (cdv ct : Value) (us : List Value), us.length = ps.length → bindArgs (PySem.W.fnOf name qual params body scope .none kV doc pm an cdv ct) ⟨us, []⟩ = pure (ps.zip us)) : FnR P w K mg base (L2.CX P w) k f sp := fnR_of ok (F.bindsN h)
end Wp

set_option maxHeartbeats 4000000
namespace Wp
open PySem PySem.W L2 PyProof.Rows
/-! ### defs that are run where no repr is under way -/
structure FnG (P : Program) (w : World) (K : Frag) (mg : Str → Option Value) (base : Heap) (k : Nat) (f : Addr) (fd : FuncData) (ps : List Str) (sp : Sp) : Prop where
  ln : ∀ vs H Q E, sp vs H Q E → vs.length = ps.length
  go : ∀ (B : Around) (out : List Env) (z : Shared) (H : Hp) (ar : Args) (us : List Value) (vs : List V) (Q : VK) (E : XK), Room k B → B.guards = some [] → Env0 P w K mg base B out z H → BindsTo z fd ar (ps.zip us) → Vals vs us → sp vs H Q E →
    codeAny (model P w) B (.call (.ref f) ar) (CR (L2.CX P w) out P w H z Q E) z
theorem FnG.of {P : Program} {w : World} {K : Frag} {mg : Str → Option Value} {base : Heap} {k : Nat} {f : Addr} {fd : FuncData} {ps : List Str} {sp : Sp} (F : FnOk P w K mg base (L2.CX P w) k f fd ps sp) : FnG P w K mg base k f fd ps sp := ⟨F.len, fun B out z H ar us vs Q E hr _ => F.run B out z H ar us vs Q E hr⟩
theorem okG {P : Program} {w : World} {K : Frag} {mg : Str → Option Value} {base : Heap} {nm ql : Str} {pr : Arguments} {bd : List Stmt} {sc : Scope} {dv : List V} {kd : List (Str × V)} {f : Addr} {fd : FuncData} {N ps : List Str} {k : Nat} {sp : Sp} (F : FunD K nm ql pr bd sc dv kd f fd) (S : FnScope N ps sc) (ln : ∀ vs H Q E, sp vs H Q E → vs.length = ps.length)
    (hb : ∀ (cdv : Value) (B : Around) (out : List Env) (z : Shared) (H : Hp) (vs : List V) (Q : VK) (E : XK), Room k (B.deeper (envOfC ql sc z.heap.objs.size f cdv)) → (B.deeper (envOfC ql sc z.heap.objs.size f cdv)).guards = some [] → sp vs H Q E →
      ∃ t, PSs (cxOf (L2.CX P w) P w K mg base N ql sc f cdv B out z H E) bd t ∧ t { nx := fun _ H' => Q .non H', rt := Q } (L2.start N vs) H) : FnG P w K mg base (k + 1) f fd ps sp := by
  obtain ⟨oc, od, dV, kV, doc, pm, an, cdv, ct, osl, rfl, at_, code, _, _⟩ := F.ex
  refine ⟨ln, fun B out z H ar us vs Q E hr hgd e0 bt r hsp => ?_⟩
  have lv := ln _ _ _ _ hsp
  have inK : K.In z.heap := e0.mod.kin.keeps fun c o e => (e0.bs c o e).1
  have nol : z.heap.NoLimit := e0.mod.nolimit.keeps fun c o e => (e0.bs c o e).1
  have kinds : ∀ y ∈ ps.zip us, sc.names.lookup y.1 = some .local ∨ (sc.names.lookup y.1 = some .cell ∧ ((cellsFrom (z.heap.objs.size + 1) sc.names []).lookup y.1).isSome = true) := by
    rintro ⟨n, v⟩ hy
    rcases S.par n (List.of_mem_zip hy).1 with a | a
    · exact .inl a
    · exact .inr ⟨a, PySem.W.cellsFrom_some _ _ _ (.inl a)⟩
  refine codeAny_call_function hr.depth (inK _ _ at_) rfl S.co S.gen rfl (PySem.W.codeRec_of inK code) (bt _ _ _ _ ?_)
  refine wpAny_newFunctionEnv_cells S.kind kinds fun env he z1 x => ?_
  subst he
  refine ⟨nol.keeps x.toInCall.keep, codeAny_func ?_⟩
  obtain ⟨t, ht, hq⟩ := hb cdv B out z H vs Q E (hr.deeper _) hgd hsp
  have J : Inv (cxOf (L2.CX P w) P w K mg base N ql sc f cdv B out z H E) [] (L2.start N vs) H z1 := inv_start S hr.hd e0 lv r x
  refine wpAny_mono (ht.run [] z1 (L2.start N vs) H _ J hq) (fun fl z' hs => ?_) fun e z' hs => hs
  cases fl with
  | ret u =>
    obtain ⟨v, σ', H', J', rv, q⟩ := hs
    exact ⟨v, H', J'.os, J'.bare, J'.base, J'.hok, rv, q⟩
  | next =>
    obtain ⟨σ', H', J', q⟩ := hs
    exact ⟨V.non, H', J'.os, J'.bare, J'.base, J'.hok, rfl, q⟩
  | brk =>
    obtain ⟨_, _, _, q⟩ := hs
    exact False.elim q
  | cont =>
    obtain ⟨_, _, _, q⟩ := hs
    exact False.elim q
/-- one of the module's defs, by positions -/
def GG (P : Program) (w : World) (K : Frag) (mg : Str → Option Value) (base : Heap) (k : Nat) (x : Str) (sp : Sp) : Prop := ∃ f fd ps, mg x = some (.ref f) ∧ keepIn K (.ref f) = true ∧ FnG P w K mg base k f fd ps sp ∧ Binds K fd ps []
theorem gg_of {P : Program} {w : World} {K : Frag} {mg : Str → Option Value} {base : Heap} {k : Nat} {x nm ql : Str} {pr : Arguments} {bd : List Stmt} {sc : Scope} {kd : List (Str × V)} {f : Addr} {fd : FuncData} {ps : List Str} {sp : Sp} (F : FunD K nm ql pr bd sc [] kd f fd) (hm : mg x = some (.ref f)) (ok : FnG P w K mg base k f fd ps sp)
    (h : ∀ (kV doc pm : Value) (an : Option Addr) (cdv ct : Value) (us : List Value), us.length = ps.length → bindArgs (PySem.W.fnOf nm ql pr bd sc .none kV doc pm an cdv ct) ⟨us, []⟩ = pure (ps.zip us)) : GG P w K mg base k x sp := ⟨f, fd, ps, hm, F.kp, ok, F.bindsN h⟩
section
variable {X : Cx} {k : Nat} {x : Str} {sp : Sp} {E : XK} {e : Expr} {es : List Expr} {t : TA} {p pos : Pos}
theorem pe_gg (g : GG X.prog X.w X.K X.mg X.base k x sp) (hr : Room k X.A) (hgd : X.A.guards = some []) (hx : Passes (L2.CX X.prog X.w) X E) (ha : PA X (e :: es) t) (hg : Gl X x := by rfl) (hdb : (x == ("__debug__" : Str)) = false := by decide)
    (he : starEach (e :: es) X.env = (false, eval e X.env) :: starEach es X.env := by rfl) (hpl : (backTo pos (starEach es X.env)).any (·.1) = false := by rfl) :
    PE X (.Call (.Name x p) (e :: es) [] pos) (tFn sp E t) := by
  obtain ⟨f, fd, ps, hm, hk, F, hb⟩ := g
  refine ⟨fun pins s σ H Q I h => ?_⟩
  refine PySem.wpAny_Call_Name_kw (ld_glob I hg hm ?_ hdb)
  refine PySem.W.callWith_K (h₀ := X.base) I.ok.mod.kin hk (thn (ha.run pos pins s σ H _ I h) fun us s1 ⟨vs, H1, I1, r, q⟩ => ⟨I1.kIn, ?_⟩) he hpl
  have lv := F.ln _ _ _ _ q
  have bq := hb s1 us I1.kIn (by rw [List.append_nil, ← r.length]; exact lv)
  rw [List.append_nil] at bq
  refine wpAny_call (codeAny_mono (F.go X.A X.stack s1 H1 ⟨us, []⟩ us vs Q E hr hgd I1.env0 bq r q) fun r s' hq => ?_)
  cases r with
  | error e => exact hx pins σ H1 s1 e s' I1 hq
  | ok fl =>
    cases fl with
    | ret u => exact I1.after hq
    | next => exact False.elim hq
    | brk => exact False.elim hq
    | cont => exact False.elim hq
/-- repr of data -/
def rRepr : List V → Hp → VK → Prop := fun vs H Q => match vs with
  | [.ref a] => (match toD H 8 (.ref a) with
    | some d => d.showable = true ∧ d.shown.length ≤ sizeLine ∧ Q (.str d.shown) H
    | none => False)
  | [.int i] => i.natAbs.log2 < 1920 ∧ Q (.str (toString i)) H
  | _ => False
theorem cRepr (hgd : X.A.guards = some []) (hu : X.A.units + 64 < cLine) : CallR X (.builtin "repr") rRepr := by
  intro pins s σ H xs us Q I r h
  unfold rRepr at h
  split at h
  · rename_i a
    split at h
    · rename_i d hd
      obtain ⟨h1, h2, q⟩ := h
      obtain ⟨u, rfl, ru⟩ := vals1 r
      obtain ⟨dp, lay, dep⟩ := toD_ok (K := X.K) 8 _ _ hd
      obtain ⟨as, rd⟩ := Dp.reads I d _ _ dp ru
      obtain rfl : u = Value.ref a := ru
      refine repr_of_reads' rd h1 ?_ hgd (by omega) (fun b o e => e) (fun h' u tk kk => ?_) h2
      · exact PyData.noDict_hsm (PyData.hasDict_of_canLay d lay)
      · exact ⟨.str _, H, I.kept (t' := tk) kk, ⟨_, rfl⟩, q⟩
    · exact h.elim
  · rename_i i
    obtain ⟨hz, q⟩ := h
    obtain ⟨u, rfl, t, rfl⟩ := vals1 r
    exact PySem.P.repr_of_int hz ⟨.str _, H, I.tok _, ⟨_, rfl⟩, q⟩
  · exact h.elim
end
/-! ### the law's end, where no repr is under way -/
theorem call_g {P : Program} {w : World} {K : Frag} {mg mb : Str → Option Value} {k : Nat} {fa a : Addr} {fd : FuncData} {x : Str} {sp : Sp} {z : Shared} {us : List Value} {ns : List Int}
    (inK : K.In z.heap) (nsm : z.heap.Ns mainGlobals mg) (nsb : z.heap.Ns builtinsNs mb) (boot : ∀ y : Str, y ≠ "__name__" → mb y = bootBuiltins y) (nol : z.heap.NoLimit) (gn : z.gens = #[])
    (la : z.heap.get? a = some { cls := .type "list", data := .seq us.toArray }) (ia : IntsAre us ns) (ll : ns.length ≤ sizeLine) (hr : Room k callerA)
    (F : ∀ b : Heap, K.In b → b.Ns mainGlobals mg → FnG P w K mg b k fa fd [x] sp) (bind : ∀ (s : Shared) (u : Value), BindsTo s fd ⟨[u], []⟩ [(x, u)])
    (hsp : ∀ H : Hp, Only H → SqL K H a (ns.map V.int) → sp [.ref a] H (fun v _ => v = .bl true) fun _ _ _ => False) :
    codeAny (model P w) callerA (.call (.ref fa) ⟨[.ref a], []⟩) (fun r s' => r = .ok (.ret (.bool true)) ∧ OldK z.heap s'.heap ∧ s'.os = z.os ∧ AllBare s'.gens) z := by
  have vi := vals_ints ia
  have li := ia.length
  have core : ∀ H : Hp, Only H → SqL K H a (ns.map V.int) → HOk P w H z.heap → (∀ c, H c ≠ none → c = a) → (H a ≠ none → K.lookup a = none) →
      codeAny (model P w) callerA (.call (.ref fa) ⟨[.ref a], []⟩) (fun r s' => r = .ok (.ret (.bool true)) ∧ OldK z.heap s'.heap ∧ s'.os = z.os ∧ AllBare s'.gens) z := by
    intro H only sq hok hA hK
    have low : ∀ {c : Addr} {o : Obj}, z.heap.get? c = some o → H c = none → (hidT z.heap H).get? c = some o := fun e n => hidT_get e n
    have nd : ∀ {c : Addr} {o : Obj} {es : Array DictEntry} {ep : Nat}, z.heap.get? c = some o → o.data = .dict es ep → H c = none := by
      intro c o es ep e d
      cases q : H c with
      | none => rfl
      | some u =>
        obtain rfl : c = a := hA c (by rw [q]; simp)
        rw [la] at e
        cases e
        have d2 : Data.seq us.toArray _ = Data.dict es ep := d
        cases d2
    have nsK : ∀ {c : Addr} {m : Str → Option Value}, z.heap.Ns c m → (hidT z.heap H).Ns c m := by
      rintro c m ⟨o, es, ep, e, d, r⟩
      exact ⟨o, es, ep, low e (nd e d), d, r⟩
    have inB : K.In (hidT z.heap H) := by
      intro c o e
      refine low (inK c o e) ?_
      cases q : H c with
      | none => rfl
      | some u =>
        obtain rfl : c = a := hA c (by rw [q]; simp)
        rw [hK (by rw [q]; simp)] at e
        cases e
    have md : Mod K mg (hidT z.heap H) := by
      obtain ⟨mc, h1, h2⟩ := nol
      exact ⟨inB, nsK nsm, ⟨mb, nsK nsb, boot⟩, ⟨mc, nsK h1, h2⟩⟩
    have e0 : Env0 P w K mg (hidT z.heap H) callerA [] z H := by
      refine ⟨rfl, md, fun c o e => of_hidT e, Nat.le_of_eq (hidT_size _ _), trivial, fun c hc => ?_, hok, .of_eq gn⟩
      exact absurd (show c ∈ ([] : List Addr) from hc) (by simp)
    refine codeAny_mono ((F _ inB (nsK nsm)).go callerA [] z H ⟨[.ref a], []⟩ [.ref a] [.ref a] _ _ hr rfl e0 (bind z (.ref a)) (.cons rfl .nil) (hsp H only sq)) fun r s' h => ?_
    cases r with
    | error e =>
      obtain ⟨_, _, _, _, _, _, _, _, _, _, _, _, hE⟩ := h
      exact hE.elim
    | ok fl =>
      cases fl with
      | next => exact False.elim h
      | brk => exact False.elim h
      | cont => exact False.elim h
      | ret u =>
        obtain ⟨v, H', os, bare, un, hok', r', q⟩ := h
        obtain rfl : v = .bl true := q
        obtain rfl : u = Value.bool true := r'
        refine ⟨rfl, OldK.of_keep fun c o e => ?_, os, bare⟩
        cases q : H c with
        | none => exact un.keep c o e q (fun y => absurd (show c ∈ ([] : List Addr) from y) (by simp)) (by simp)
        | some u =>
          rcases only c with y | ⟨oc, xs, y⟩
          · rw [q] at y
            cases y
          · obtain ⟨e1, _⟩ := hok c _ y
            obtain ⟨e2, _⟩ := hok' c _ (un.frzs c oc _ y)
            rw [e] at e1
            cases e1
            exact e2
  cases hk : K.lookup a with
  | some o =>
    have e := inK a o hk
    rw [la] at e
    cases e
    refine core (fun _ => none) (fun _ => .inl rfl) (.inr ⟨_, us.toArray, _, hk, rfl, rfl, rfl, by rw [List.size_toArray, li]; exact ll, by simpa using vi⟩) (fun c u y => ?_) (fun c y => absurd rfl y) fun y => absurd rfl y
    cases (show (none : Option HO) = some u from y)
  | none =>
    refine core (fun c => if c = a then some (.frz { cls := .type "list", data := .seq us.toArray } (.lst (ns.map V.int))) else none) (fun c => ?_) (.inl (.inr ⟨{ cls := .type "list", data := .seq us.toArray }, if_pos rfl⟩)) (fun c u y => ?_) (fun c y => ?_) fun _ => hk
    · by_cases ca : c = a
      · exact .inr ⟨_, _, if_pos ca⟩
      · exact .inl (if_neg ca)
    · by_cases ca : c = a
      · have y2 := (if_pos ca).symm.trans y
        cases y2
        subst ca
        exact ⟨la, by rw [List.length_map]; exact ll, us, _, vi, la⟩
      · have y2 := (if_neg ca).symm.trans y
        cases y2
    · by_cases ca : c = a
      · exact ca
      · exact absurd (if_neg ca) y
theorem walk_g {l : PySem.W.OpenLaw} {n k : Nat} {q : Program} {loose : List Str} {XP : (Str → Option Value) → Heap → Prop} {YP : World → Heap → Prop} {d : DefRec} {x : Str}
    (hn : l.most = some n) (hn2 : n ≤ sizeLine) (hdf : d.params.defaults = []) (hr : Room k callerA)
    (F : ∀ (w : World) (mg : Str → Option Value) (fa : Addr) (h : Heap), YP w h → h.Ns mainGlobals mg → mg d.name = some (.ref fa) →
      ∃ (K : Frag) (fd : FuncData) (sp : Sp), K.In h ∧ (∀ (s : Shared) (u : Value), BindsTo s fd ⟨[u], []⟩ [(x, u)]) ∧
        (∀ (H : Hp) (a : Addr) (ns : List Int), ns.length ≤ n → Only H → SqL K H a (ns.map V.int) → sp [.ref a] H (fun v _ => v = .bl true) fun _ _ _ => False) ∧
        ∀ base : Heap, K.In base → base.Ns mainGlobals mg → FnG l.prog w K mg base k fa fd [x] sp) :
    PySem.W.WalkO q loose XP YP l.row.toRowW d [] (fun f vs => PySem.call f vs) := by
  refine Att.attach_call hn hdf fun w s₀ s₁ mg mb fa o pm cd doc a vs ns G Y ho hd hcd hmg hobj hints hlen hg => ?_
  have ⟨K, fd, sp, KX, hb, hsp, hF⟩ := F w mg fa _ Y G.T.g hmg
  exact call_g KX G.T.g G.T.b G.T.builtins G.T.nolimit hg hobj hints (Nat.le_trans hlen hn2) hr hF hb (fun H hO hS => hsp H a ns hlen hO hS)
end Wp

set_option maxHeartbeats 4000000
namespace Wp
open PySem PySem.W L2 PyProof.Rows
open PySem.SeqAt MeetsSeq MeetsSeq2 MeetsSeq3 SeqRoads2
open AutoSeq1 (wpAny_loadPart')
section
variable {prog : Program} {w : World} {A : Around} {R : Result → Shared → Prop}
/-- two lists, item by item equal: != says no -/
theorem ne_turns (p q : Addr) (N : Nat) (J : Nat → Shared → Prop) (read : GQ.ListI prog w A (fun e s' => R (.error e) s') p q N J) (stop : ∀ s, J N s → R (.ok (.ret (.bool false))) s) (m : Nat) :
    ∀ i : Nat, N - i = m → i ≤ N → ∀ s, J i s → wpAny (model prog w) A.in1 (Builtin.«list.__eq__.loop» ⟨[.ref p, .ref q, rawInt i, rawInt 3], []⟩) (GQ.FinOf prog w A R) (fun e s' => R (.error e) s') s := by
  induction m with
  | zero =>
    intro i hm hi s h
    obtain ⟨xs, ys, n, n2, gx, gy, sx, sy, _⟩ := read _ _ h
    have iN : i = N := by omega
    have out := stop s (iN ▸ h)
    obtain ⟨hp, g, d, tk, os⟩ := s
    wp_walk using wpAny_loadPart' gx, wpAny_loadPart' gy
    have e1 : xs[((i : Nat) : Int).toNat]? = none := by simp; omega
    have e2 : ys[((i : Nat) : Int).toNat]? = none := by simp; omega
    rw [e1, e2]
    wp_walk using wpAny_loadPart' gx, wpAny_loadPart' gy
    have ee : (xs.size != ys.size) = false := by rw [sx, sy]; simp
    first
      | (show R (.ok (.ret (.bool (xs.size != ys.size)))) _
         rw [ee]; exact out)
      | (simp [sx, sy]; exact out)
  | succ m ih =>
    intro i hm hi s h
    obtain ⟨xs, ys, n, n2, gx, gy, sx, sy, turn⟩ := read _ _ h
    have lx : i < xs.size := by omega
    have ly : i < ys.size := by omega
    have tn := turn lx ly
    obtain ⟨hp, g, d, tk, os⟩ := s
    wp_walk using wpAny_loadPart' gx, wpAny_loadPart' gy
    have e1 : xs[((i : Nat) : Int).toNat]? = some xs[i] := by simp [lx]
    have e2 : ys[((i : Nat) : Int).toNat]? = some ys[i] := by simp [ly]
    have e3 : ((i : Int) + 1) = ((i + 1 : Nat) : Int) := by omega
    rw [e1, e2]
    refine wpAny_bind (wpAny_mono tn (fun r s2 h2 => ?_) fun _ _ x => x)
    obtain ⟨rt, h2⟩ := h2
    subst rt
    have rcs := ih (i + 1) (by omega) (by omega) s2 h2
    obtain ⟨hp2, g2, d2, tk2, os2⟩ := s2
    wp_walk
    rw [e3]
    exact ⟨plainId_quiet plain_eq_loop _, codeAny_builtin entry_eq_loop (by
      rw [Around.under_plainId plain_eq_loop _]
      exact rcs)⟩
theorem ne_lists (p q : Addr) (N : Nat) (J : Nat → Shared → Prop) (read : GQ.ListI prog w A (fun e s' => R (.error e) s') p q N J) (stop : ∀ s, J N s → R (.ok (.ret (.bool false))) s) {s : Shared} (h : J 0 s) :
    wpAny (model prog w) A.in1 (Builtin.«list.__ne__» ⟨[.ref p, .ref q], []⟩) (GQ.FinOf prog w A R) (fun e s' => R (.error e) s') s := by
  obtain ⟨xs, ys, n, n2, gx, gy, sx, sy, _⟩ := read _ _ h
  have rcs := ne_turns (A := A) (R := R) p q N J read stop _ 0 rfl (Nat.zero_le _) s h
  obtain ⟨hp, g, d, tk, os⟩ := s
  have f3 := AutoSeq1.sub_list_list
  have ns : ¬ (xs.size != ys.size) = true := by simp [sx, sy]
  wp_walk using wpAny_loadPart' gx, wpAny_loadPart' gy
  exact ⟨plainId_quiet plain_eq_loop _, codeAny_builtin entry_eq_loop (by
    rw [Around.under_plainId plain_eq_loop _]
    exact rcs)⟩
end
section
variable {X : Cx} {n : Nat} {D : L2.Eqv}
theorem ext_to {H H' : Hp} (e : L2.Ext H H') : Ext H H' := by
  intro a h
  cases q : H a with
  | none => exact absurd q h
  | some o => exact e a o q
theorem ext_from {H H' : Hp} (e : Ext H H') : L2.Ext H H' := fun a o h => e.at h
/-- list != list, the items equal by D: no -/
def rNeL (D : L2.Eqv) : R2 := fun x y H Q => L2.DList D x y H ∧ ∀ H', Ext H H' → Q (.bl false) H'
theorem op_neL (hD : L2.Mon D) (he : L2.EqG X n D) (hr : Room (n + 1) X.A) : OpR X (compareOp .NotEq) (rNeL D) := by
  intro pins s σ H x y v u Q I rx ry hq
  obtain ⟨⟨a, b, xs, ys, rfl, rfl, ga, gb, prs⟩, q⟩ := hq
  cases rx
  cases ry
  show wpAny (model X.prog X.w) X.A (richCompare .NotEq (.ref a) (.ref b)) (EP X pins σ Q) X.xe s
  have sb : L2.Sub X (n + 1) X.A := ⟨hr, rfl⟩
  have read : GQ.ListI X.prog X.w X.A X.xe a b xs.length (fun _ s' => L2.LoopI X pins σ H s') := by
    intro i s' l
    obtain ⟨H1, I1, e1⟩ := id l
    obtain ⟨_, its, k, r, g⟩ := I1.hok a _ (e1 _ _ ga)
    obtain ⟨_, its2, k2, r2, g2⟩ := I1.hok b _ (e1 _ _ gb)
    refine ⟨its.toArray, its2.toArray, k, k2, g, g2, ?_, ?_, fun h1 h2 => L2.turnG hD he sb prs r r2 i h1 h2 s' l⟩
    · rw [List.size_toArray, ← r.length]
    · rw [List.size_toArray, ← r2.length, ← prs.1]
  have l0 : L2.LoopI X pins σ H s := ⟨H, I, fun _ _ h => h⟩
  obtain ⟨_, _, _, _, g1, g2, _, _, _⟩ := read 0 s l0
  refine wpAny_richCompare_same_room (op := .NotEq) ⟨_, g1, rfl⟩ ⟨_, g2, rfl⟩ PySem.F.slot_list_ne (GQ.call_here PySem.F.slot_list_ne ⟨_, g1, rfl⟩ PySem.F.entry_list_ne (PySem.F.args_list_ne_2 _ _) ?_) hr.units0
  refine ne_lists (R := wants (fun v s' => v ≠ .notImplemented ∧ EP X pins σ Q v s') X.xe) a b xs.length (fun _ s' => L2.LoopI X pins σ H s') read (fun s' l => ?_) l0
  obtain ⟨H1, I1, e1⟩ := l
  exact ⟨nofun, .bl false, H1, I1, rfl, q H1 (ext_to e1)⟩
end
end Wp

set_option maxHeartbeats 4000000
namespace Wp
open PySem PySem.W L2 PyProof.Rows
def topS (i : Nat) : Stmt := PySem.Challenge.pw_wordprices_k08_ratios_in_order.main.body.getD i (.Pass ⟨0, 0, 0, 0⟩)
abbrev FunS (K : PySem.W.Frag) (x : Str) (q : Str) (st : Stmt) (dv : List V) (f : Addr) (fd : FuncData) : Prop := FunD K x q (defArgs st) (defBody st) (defScope st) dv [] f fd
/-- names of built-ins that the module leaves as they are -/
structure Glb (mg : Str → Option Value) : Prop where
  int : mg "int" = none
  len : mg "len" = none
  abs : mg "abs" = none
  bool : mg "bool" = none
  isinstance : mg "isinstance" = none
  range : mg "range" = none
  str : mg "str" = none
  list : mg "list" = none
  repr : mg "repr" = none
theorem t_tup {K : Frag} {H : Hp} {a : Addr} {xs : List V} {k : Value → Prop} (h : H a = some (.tup xs)) (q : k (.type "tuple")) : rTy K (.ref a) H k := by unfold rTy; simp only [h]; exact q
theorem t_lst {K : Frag} {H : Hp} {a : Addr} {xs : List V} {k : Value → Prop} (h : H a = some (.lst xs)) (q : k (.type "list")) : rTy K (.ref a) H k := by unfold rTy; simp only [h]; exact q
theorem t_ins {K : Frag} {H : Hp} {a C dx : Addr} {fs : List (Str × V)} {k : Value → Prop} (h : H a = some (.ins C dx fs)) (c : InsK K C) (q : k (.ref C)) : rTy K (.ref a) H k := by unfold rTy; simp only [h]; exact ⟨c, q⟩
theorem s_fld {K : Frag} {H : Hp} {a C dx : Addr} {fs : List (Str × V)} {f : Str} {v : V} {Q : VK} (h : H a = some (.ins C dx fs)) (c : Cls K C) (n : NoAttr K C f) (l : fs.lookup f = some v) (q : Q v H) : rFld K f (.ref a) H Q := by
  unfold rFld; simp only [h, l]; exact ⟨c, n, q⟩
theorem cGcd {X : Cx} : CallR X (.builtin "math.gcd") rGcd := cr_gcd
/-! ### the class Ratio -/
def ratF (t b : Int) : List (Str × V) := [("top", .int t), ("bottom", .int b)]
theorem rat_top {t b : Int} : (ratF t b).lookup ("top" : Str) = some (.int t) := by simp [ratF, List.lookup]
theorem rat_bot {t b : Int} : (ratF t b).lookup ("bottom" : Str) = some (.int b) := by
  have e : (("bottom" : Str) == "top") = false := by decide +kernel
  simp [ratF, List.lookup, e]
theorem rat_no {t b : Int} {m : Str} (h1 : (m == "top") = false) (h2 : (m == "bottom") = false) : (ratF t b).lookup m = none := by
  simp [ratF, List.lookup, h1, h2]
theorem rat_put {t b : Int} : putF "bottom" (.int b) (putF "top" (.int t) []) = ratF t b := by
  have e : ¬ (("top" : Str) = "bottom") := by decide +kernel
  simp [putF, ratF, e]
structure ClsRat (K : Frag) (C : Addr) : Prop where
  ins : InsK K C
  nT : NoAttr K C "top"
  nB : NoAttr K C "bottom"
  two : twoMro K C = true
  k_self : kitOne K (.ref C) (.ref C) = some true
  k_int : kitOne K (.type "int") (.ref C) = some false
  k_bool : kitOne K (.type "bool") (.ref C) = some false
  k_none : kitOne K (.type "NoneType") (.ref C) = some false
  k_str : kitOne K (.type "str") (.ref C) = some false
  k_tup : kitOne K (.type "tuple") (.ref C) = some false
  kC_int : kitOne K (.ref C) (.type "int") = some false
  s_int : subIn K (.type "int") (.ref C) = some false
  s_bool : subIn K (.type "bool") (.ref C) = some false
  n_int : subIn K (.ref C) (.type "int") = some false
  n_none : subIn K (.ref C) (.type "NoneType") = some false
  n_str : subIn K (.ref C) (.type "str") = some false
  n_tup : subIn K (.ref C) (.type "tuple") = some false
  gC : True
section
variable {P : Program} {w : World} {K : PySem.W.Frag} {mg : Str → Option Value} {base : Heap} {C : Addr}
/-- isinstance(value, int) and not isinstance(value, bool) -/
def isIntV : V → Bool
  | .int _ => true
  | _ => false
/-- values of which is_integer can be asked -/
def askOk (C : Addr) (H : Hp) (x : V) : Prop := match x with
  | .non => True
  | .bl _ => True
  | .int _ => True
  | .str _ => True
  | .ref a => (match H a with
    | some (.tup _) => True
    | some (.ins C' _ _) => C' = C
    | _ => False)
  | _ => False
def spIsInt (C : Addr) : Sp := fun vs H Q _ => ∃ x, vs = [x] ∧ askOk C H x ∧ Q (.bl (isIntV x)) H
theorem kit_ii : kitOne K (.type "int") (.type "int") = some true := by kernel_rfl
theorem kit_ib : kitOne K (.type "int") (.type "bool") = some false := by kernel_rfl
theorem kit_bi : kitOne K (.type "bool") (.type "int") = some true := by kernel_rfl
theorem kit_bb : kitOne K (.type "bool") (.type "bool") = some true := by kernel_rfl
theorem kit_ni : kitOne K (.type "NoneType") (.type "int") = some false := by kernel_rfl
theorem kit_si : kitOne K (.type "str") (.type "int") = some false := by kernel_rfl
theorem kit_ti : kitOne K (.type "tuple") (.type "int") = some false := by kernel_rfl
abbrev sIsInt : Stmt := topS 4
theorem scIsInt : FnScope ["value"] ["value"] (defScope sIsInt) := ⟨rfl, rfl, rfl, by decide +kernel, rfl, by decide +kernel, by decide +kernel⟩
theorem ok_isInt {f : Addr} {fd : FuncData} (F : FunS K "is_integer" "is_integer" sIsInt [] f fd) (G : Glb mg) (T : ClsRat K C) : FnOk P w K mg base (L2.CX P w) 1 f fd ["value"] (spIsInt C) := by
  refine F.ok scIsInt (fun vs H Q E h => ?_) (fun cdv A outer s H vs Q E hr h => ?_)
  · obtain ⟨x, rfl, _⟩ := h
    rfl
  · obtain ⟨x, rfl, hx, q⟩ := h
    refine ⟨_, (pss_one (ps_ret (pe_and (pe_callB cIsi (by rfl) G.isinstance boot_isinstance (pa_cons (pv 0) (pa_cons (pe_bltn (v := .ty "int") (by rfl) G.int boot_int rfl) pa_nil))) (pe_one (pe_not (pe_callB cIsi (by rfl) G.isinstance boot_isinstance (pa_cons (pv 0) (pa_cons (pe_bltn (v := .ty "bool") (by rfl) G.bool boot_bool rfl) pa_nil)))))))), ?_⟩
    simp only [tSeq, tIfS, tAsg, tRet, tRetN, tDrop, tOp, tUn, tC, tCB, tCons, tNil, gName, gSub, gUnpU, tTest, tB, tNext, tAnd, tOr, tNot, tAndV, tOrV, tNotV, tIf, tLst, tTup, tPar, tPar3, tFn, tMkU, tMtU, tFldU, tSetF, tFmtU, tChain, tSl, tPart, L2.start, List.map_cons, List.map_nil, List.length_cons, List.length_nil, Nat.reduceAdd, Nat.reduceSub, List.reduceReplicate, List.cons_append, List.nil_append, e_v0, e_v1, e_v2, e_v3, e_v4, e_vs, e_set0, e_setS, b_2i, b_int, b_intb, b_abs, e_bl, b_if, b_ff, b_tt, b_un, b_fmti, b_fmts, b_js, b_jsn, b_jsc, b_booli, b_boolb, b_gcons, b_gnil, cxK, true_and, if_true, if_false, Bool.false_eq_true, Bool.not_true, Bool.not_false, exists_eq_left', exists_eq_left]
    unfold askOk at hx
    split at hx
    · refine s_isi rfl kit_ni ?_
      simp only [e_v0, e_v1, e_v2, e_v3, e_v4, e_vs, e_set0, e_setS, b_2i, b_int, b_intb, b_abs, e_bl, b_if, b_ff, b_tt, b_un, b_fmti, b_fmts, b_js, b_jsn, b_jsc, b_booli, b_boolb, b_gcons, b_gnil, cxK, true_and, if_true, if_false, Bool.false_eq_true, Bool.not_true, Bool.not_false, exists_eq_left', exists_eq_left]; exact q
    · refine s_isi rfl kit_bi ?_
      simp only [e_v0, e_v1, e_v2, e_v3, e_v4, e_vs, e_set0, e_setS, b_2i, b_int, b_intb, b_abs, e_bl, b_if, b_ff, b_tt, b_un, b_fmti, b_fmts, b_js, b_jsn, b_jsc, b_booli, b_boolb, b_gcons, b_gnil, cxK, true_and, if_true, if_false, Bool.false_eq_true, Bool.not_true, Bool.not_false, exists_eq_left', exists_eq_left]
      refine s_isi rfl kit_bb ?_
      simp only [e_v0, e_v1, e_v2, e_v3, e_v4, e_vs, e_set0, e_setS, b_2i, b_int, b_intb, b_abs, e_bl, b_if, b_ff, b_tt, b_un, b_fmti, b_fmts, b_js, b_jsn, b_jsc, b_booli, b_boolb, b_gcons, b_gnil, cxK, true_and, if_true, if_false, Bool.false_eq_true, Bool.not_true, Bool.not_false, exists_eq_left', exists_eq_left]; exact q
    · refine s_isi rfl kit_ii ?_
      simp only [e_v0, e_v1, e_v2, e_v3, e_v4, e_vs, e_set0, e_setS, b_2i, b_int, b_intb, b_abs, e_bl, b_if, b_ff, b_tt, b_un, b_fmti, b_fmts, b_js, b_jsn, b_jsc, b_booli, b_boolb, b_gcons, b_gnil, cxK, true_and, if_true, if_false, Bool.false_eq_true, Bool.not_true, Bool.not_false, exists_eq_left', exists_eq_left]
      refine s_isi rfl kit_ib ?_
      simp only [e_v0, e_v1, e_v2, e_v3, e_v4, e_vs, e_set0, e_setS, b_2i, b_int, b_intb, b_abs, e_bl, b_if, b_ff, b_tt, b_un, b_fmti, b_fmts, b_js, b_jsn, b_jsc, b_booli, b_boolb, b_gcons, b_gnil, cxK, true_and, if_true, if_false, Bool.false_eq_true, Bool.not_true, Bool.not_false, exists_eq_left', exists_eq_left]; exact q
    · refine s_isi rfl kit_si ?_
      simp only [e_v0, e_v1, e_v2, e_v3, e_v4, e_vs, e_set0, e_setS, b_2i, b_int, b_intb, b_abs, e_bl, b_if, b_ff, b_tt, b_un, b_fmti, b_fmts, b_js, b_jsn, b_jsc, b_booli, b_boolb, b_gcons, b_gnil, cxK, true_and, if_true, if_false, Bool.false_eq_true, Bool.not_true, Bool.not_false, exists_eq_left', exists_eq_left]; exact q
    · split at hx
      · rename_i e
        refine s_isi rfl (t_tup e kit_ti) ?_
        simp only [e_v0, e_v1, e_v2, e_v3, e_v4, e_vs, e_set0, e_setS, b_2i, b_int, b_intb, b_abs, e_bl, b_if, b_ff, b_tt, b_un, b_fmti, b_fmts, b_js, b_jsn, b_jsc, b_booli, b_boolb, b_gcons, b_gnil, cxK, true_and, if_true, if_false, Bool.false_eq_true, Bool.not_true, Bool.not_false, exists_eq_left', exists_eq_left]; exact q
      · rename_i e
        subst hx
        refine s_isi rfl (t_ins e T.ins T.kC_int) ?_
        simp only [e_v0, e_v1, e_v2, e_v3, e_v4, e_vs, e_set0, e_setS, b_2i, b_int, b_intb, b_abs, e_bl, b_if, b_ff, b_tt, b_un, b_fmti, b_fmts, b_js, b_jsn, b_jsc, b_booli, b_boolb, b_gcons, b_gnil, cxK, true_and, if_true, if_false, Bool.false_eq_true, Bool.not_true, Bool.not_false, exists_eq_left', exists_eq_left]; exact q
      · exact hx.elim
    · exact hx.elim
/-! ### the parts of a number -/
def Num (C : Addr) (H : Hp) (y : V) (t b : Int) : Prop := (y = .int t ∧ b = 1) ∨ ∃ a dx, y = .ref a ∧ H a = some (.ins C dx (ratF t b))
def spParts (C : Addr) : Sp := fun vs H Q _ => ∃ y t b, vs = [y] ∧ Num C H y t b ∧ ∀ p H', Ext H H' → H' p = some (.tup [.int t, .int b]) → Q (.ref p) H'
abbrev sParts : Stmt := topS 11
theorem scParts : FnScope ["value"] ["value"] (defScope sParts) := ⟨rfl, rfl, rfl, by decide +kernel, rfl, by decide +kernel, by decide +kernel⟩
theorem ok_parts {f : Addr} {fd : FuncData} (F : FunS K "parts_of" "parts_of" sParts [] f fd) (G : Glb mg) (T : ClsRat K C) (gC : mg "Ratio" = some (.ref C)) (gI : GF P w K mg base 1 "is_integer" (spIsInt C)) : FnOk P w K mg base (L2.CX P w) 2 f fd ["value"] (spParts C) := by
  refine F.ok scParts (fun vs H Q E h => ?_) (fun cdv A outer s H vs Q E hr h => ?_)
  · obtain ⟨y, t, b, rfl, _⟩ := h
    rfl
  · obtain ⟨y, t, b, rfl, hx, q⟩ := h
    refine ⟨_, (pss_cons (ps_if (pt_val (pe_callB cIsi (by rfl) G.isinstance boot_isinstance (pa_cons (pv 0) (pa_cons (pe_glob (v := .ref C) (by rfl) gC rfl) pa_nil)))) (pss_one (ps_ret (pe_tup (pa_cons (pe_fldU (K := K) (pv 0)) (pa_cons (pe_fldU (K := K) (pv 0)) pa_nil))))) pss_nil)
      (pss_cons (ps_if (pt_not (pt_val (pe_fn gI (hr.mono (by decide)) (passes_call (takes_of rfl rfl rfl rfl) (fun _ _ _ _ h => h)) (pa_cons (pv 0) pa_nil)))) (pss_one ps_never) pss_nil)
      (pss_one (ps_ret (pe_tup (pa_cons (pv 0) (pa_cons pe_int pa_nil))))))), ?_⟩
    simp only [tSeq, tIfS, tAsg, tRet, tRetN, tDrop, tOp, tUn, tC, tCB, tCons, tNil, gName, gSub, gUnpU, tTest, tB, tNext, tAnd, tOr, tNot, tAndV, tOrV, tNotV, tIf, tLst, tTup, tPar, tPar3, tFn, tMkU, tMtU, tFldU, tSetF, tFmtU, tChain, tSl, tPart, L2.start, List.map_cons, List.map_nil, List.length_cons, List.length_nil, Nat.reduceAdd, Nat.reduceSub, List.reduceReplicate, List.cons_append, List.nil_append, e_v0, e_v1, e_v2, e_v3, e_v4, e_vs, e_set0, e_setS, b_2i, b_int, b_intb, b_abs, e_bl, b_if, b_ff, b_tt, b_un, b_fmti, b_fmts, b_js, b_jsn, b_jsc, b_booli, b_boolb, b_gcons, b_gnil, cxK, true_and, if_true, if_false, Bool.false_eq_true, Bool.not_true, Bool.not_false, exists_eq_left', exists_eq_left]
    rcases hx with ⟨rfl, rfl⟩ | ⟨a, dx, rfl, ha⟩
    · refine s_isi rfl T.k_int ?_
      simp only [e_v0, e_v1, e_v2, e_v3, e_v4, e_vs, e_set0, e_setS, b_2i, b_int, b_intb, b_abs, e_bl, b_if, b_ff, b_tt, b_un, b_fmti, b_fmts, b_js, b_jsn, b_jsc, b_booli, b_boolb, b_gcons, b_gnil, cxK, true_and, if_true, if_false, Bool.false_eq_true, Bool.not_true, Bool.not_false, exists_eq_left', exists_eq_left]
      refine ⟨_, rfl, trivial, ?_⟩
      simp only [isIntV, Bool.not_true, e_v0, e_v1, e_v2, e_v3, e_v4, e_vs, e_set0, e_setS, b_2i, b_int, b_intb, b_abs, e_bl, b_if, b_ff, b_tt, b_un, b_fmti, b_fmts, b_js, b_jsn, b_jsc, b_booli, b_boolb, b_gcons, b_gnil, cxK, true_and, if_true, if_false, Bool.false_eq_true, Bool.not_true, Bool.not_false, exists_eq_left', exists_eq_left]
      exact ⟨by decide, fun p hp => q p _ (Ext.upd hp) upd_at⟩
    · refine s_isi rfl (t_ins ha T.ins T.k_self) ?_
      simp only [e_v0, e_v1, e_v2, e_v3, e_v4, e_vs, e_set0, e_setS, b_2i, b_int, b_intb, b_abs, e_bl, b_if, b_ff, b_tt, b_un, b_fmti, b_fmts, b_js, b_jsn, b_jsc, b_booli, b_boolb, b_gcons, b_gnil, cxK, true_and, if_true, if_false, Bool.false_eq_true, Bool.not_true, Bool.not_false, exists_eq_left', exists_eq_left]
      refine s_fld ha T.ins.cl T.nT rat_top ?_
      refine s_fld ha T.ins.cl T.nB rat_bot ?_
      exact ⟨by decide, fun p hp => q p _ (Ext.upd hp) upd_at⟩
def spPartsO (C : Addr) : Sp := fun vs H Q _ => ∃ y t b, vs = [y] ∧ Num C H y t b ∧ t ≠ 0 ∧ ∀ p H', Ext H H' → H' p = some (.tup [.int t, .int b]) → Q (.ref p) H'
abbrev sOver1 : Stmt := topS 12
theorem scOver1 : FnScope ["value", "top", "bottom"] ["value"] (defScope sOver1) := ⟨rfl, rfl, rfl, by decide +kernel, rfl, by decide +kernel, by decide +kernel⟩
theorem ok_over1 {f : Addr} {fd : FuncData} (F : FunS K "parts_over" "parts_over" sOver1 [] f fd) (G : Glb mg) (T : ClsRat K C) (gP : GF P w K mg base 2 "parts_of" (spParts C)) : FnOk P w K mg base (L2.CX P w) 3 f fd ["value"] (spPartsO C) := by
  refine F.ok scOver1 (fun vs H Q E h => ?_) (fun cdv A outer s H vs Q E hr h => ?_)
  · obtain ⟨y, t, b, rfl, _⟩ := h
    rfl
  · obtain ⟨y, t, b, rfl, hx, ht, q⟩ := h
    have hu := hr.units
    refine ⟨_, (pss_cons (ps_asg (pe_fn gP (hr.mono (by decide)) (passes_call (takes_of rfl rfl rfl rfl) (fun _ _ _ _ h => h)) (pa_cons (pv 0) pa_nil)) (pg_unpU (n := 2) rfl (pgs_cons (pg_name (i := 1) scOver1.nd rfl (Or.inl rfl)) (pgs_cons (pg_name (i := 2) scOver1.nd rfl (Or.inl rfl)) pgs_nil))))
      (pss_cons (ps_if (pt_cmpR (oEq hu) (pv 1) pe_int (nomark _)) (pss_one ps_never) pss_nil)
      (pss_one (ps_ret (pe_tup (pa_cons (pv 1) (pa_cons (pv 2) pa_nil))))))), ?_⟩
    simp only [tSeq, tIfS, tAsg, tRet, tRetN, tDrop, tOp, tUn, tC, tCB, tCons, tNil, gName, gSub, gUnpU, tTest, tB, tNext, tAnd, tOr, tNot, tAndV, tOrV, tNotV, tIf, tLst, tTup, tPar, tPar3, tFn, tMkU, tMtU, tFldU, tSetF, tFmtU, tChain, tSl, tPart, L2.start, List.map_cons, List.map_nil, List.length_cons, List.length_nil, Nat.reduceAdd, Nat.reduceSub, List.reduceReplicate, List.cons_append, List.nil_append, e_v0, e_v1, e_v2, e_v3, e_v4, e_vs, e_set0, e_setS, b_2i, b_int, b_intb, b_abs, e_bl, b_if, b_ff, b_tt, b_un, b_fmti, b_fmts, b_js, b_jsn, b_jsc, b_booli, b_boolb, b_gcons, b_gnil, cxK, true_and, if_true, if_false, Bool.false_eq_true, Bool.not_true, Bool.not_false, exists_eq_left', exists_eq_left]
    refine ⟨y, t, b, rfl, hx, fun p H1 x1 g1 => ?_⟩
    refine s_unp g1 rfl ?_
    try simp only [tSeq, tIfS, tAsg, tRet, tRetN, tDrop, tOp, tUn, tC, tCB, tCons, tNil, gName, gSub, gUnpU, tTest, tB, tNext, tAnd, tOr, tNot, tAndV, tOrV, tNotV, tIf, tLst, tTup, tPar, tPar3, tFn, tMkU, tMtU, tFldU, tSetF, tFmtU, tChain, tSl, tPart, L2.start, List.map_cons, List.map_nil, List.length_cons, List.length_nil, Nat.reduceAdd, Nat.reduceSub, List.reduceReplicate, List.cons_append, List.nil_append, e_v0, e_v1, e_v2, e_v3, e_v4, e_vs, e_set0, e_setS, b_2i, b_int, b_intb, b_abs, e_bl, b_if, b_ff, b_tt, b_un, b_fmti, b_fmts, b_js, b_jsn, b_jsc, b_booli, b_boolb, b_gcons, b_gnil, cxK, true_and, if_true, if_false, Bool.false_eq_true, Bool.not_true, Bool.not_false, exists_eq_left', exists_eq_left]
    refine s_eq d_int d_int ?_
    simp only [e_v0, e_v1, e_v2, e_v3, e_v4, e_vs, e_set0, e_setS, b_2i, b_int, b_intb, b_abs, e_bl, b_if, b_ff, b_tt, b_un, b_fmti, b_fmts, b_js, b_jsn, b_jsc, b_booli, b_boolb, b_gcons, b_gnil, cxK, true_and, if_true, if_false, Bool.false_eq_true, Bool.not_true, Bool.not_false, exists_eq_left', exists_eq_left]
    have e : PyData.eqv (.int t) (.int 0) = false := by rw [PyData.eqv]; simpa using ht
    simp only [e, e_v0, e_v1, e_v2, e_v3, e_v4, e_vs, e_set0, e_setS, b_2i, b_int, b_intb, b_abs, e_bl, b_if, b_ff, b_tt, b_un, b_fmti, b_fmts, b_js, b_jsn, b_jsc, b_booli, b_boolb, b_gcons, b_gnil, cxK, true_and, if_true, if_false, Bool.false_eq_true, Bool.not_true, Bool.not_false, exists_eq_left', exists_eq_left]
    exact ⟨by decide, fun p2 hp2 => q p2 _ (x1.trans (Ext.upd hp2)) upd_at⟩
/-! ### Ratio(top, bottom) -/
def spInit (C : Addr) : Sp := fun vs H Q _ => ∃ x dx t b, vs = [.ref x, .int t, .int b] ∧ H x = some (.ins C dx []) ∧ b ≠ 0 ∧ big b ∧ ∀ H', H' x = some (.ins C dx (ratF (lowT t b) (lowB t b))) → ExtBut x H H' → Q .non H'
abbrev sInit : Stmt := inClass (topS 13) 0
theorem scInit : FnScope ["self", "top", "bottom", "part"] ["self", "top", "bottom"] (defScope sInit) := ⟨rfl, rfl, rfl, by decide +kernel, rfl, by decide +kernel, by decide +kernel⟩
theorem ok_init {f : Addr} {fd : FuncData} (F : FunS K "__init__" "Ratio.__init__" sInit [.int 1] f fd) (G : Glb mg) (T : ClsRat K C) (gI : GF P w K mg base 1 "is_integer" (spIsInt C)) (gG : mg "gcd" = some (.builtin "math.gcd")) : FnOk P w K mg base (L2.CX P w) 2 f fd ["self", "top", "bottom"] (spInit C) := by
  refine F.ok scInit (fun vs H Q E h => ?_) (fun cdv A outer s H vs Q E hr h => ?_)
  · obtain ⟨x, dx, t, b, rfl, _⟩ := h
    rfl
  · obtain ⟨x, dx, t, b, rfl, hx, hb, hbb, q⟩ := h
    have hu := hr.units
    refine ⟨_, (pss_cons (ps_if (pt_not (pt_val (pe_fn gI (hr.mono (by decide)) (passes_call (takes_of rfl rfl rfl rfl) (fun _ _ _ _ h => h)) (pa_cons (pv 1) pa_nil)))) (pss_one ps_never) pss_nil)
      (pss_cons (ps_if (PW.pt (pw_or (pt_not (pt_val (pe_fn gI (hr.mono (by decide)) (passes_call (takes_of rfl rfl rfl rfl) (fun _ _ _ _ h => h)) (pa_cons (pv 2) pa_nil)))) (pw_or1 (pt_cmpR (oEq hu) (pv 2) pe_int (nomark _))))) (pss_one ps_never) pss_nil)
      (pss_cons (ps_set (i := 3) scInit.nd rfl (Or.inl rfl) (pe_ifExp (pt_cmpR oGt (pv 2) pe_int (nomark _)) (pe_callBfun cGcd (by rfl) gG (pa_cons (pv 1) (pa_cons (pv 2) pa_nil))) (pe_un un_neg (pe_callBfun cGcd (by rfl) gG (pa_cons (pv 1) (pa_cons (pv 2) pa_nil))))))
      (pss_cons (ps_fldU (K := K) (pv 0) (pe_op oFdivN (pv 1) (pv 3)))
      (pss_one (ps_fldU (K := K) (pv 0) (pe_op oFdivN (pv 2) (pv 3)))))))), ?_⟩
    simp only [tSeq, tIfS, tAsg, tRet, tRetN, tDrop, tOp, tUn, tC, tCB, tCons, tNil, gName, gSub, gUnpU, tTest, tB, tNext, tAnd, tOr, tNot, tAndV, tOrV, tNotV, tIf, tLst, tTup, tPar, tPar3, tFn, tMkU, tMtU, tFldU, tSetF, tFmtU, tChain, tSl, tPart, L2.start, List.map_cons, List.map_nil, List.length_cons, List.length_nil, Nat.reduceAdd, Nat.reduceSub, List.reduceReplicate, List.cons_append, List.nil_append, e_v0, e_v1, e_v2, e_v3, e_v4, e_vs, e_set0, e_setS, b_2i, b_int, b_intb, b_abs, e_bl, b_if, b_ff, b_tt, b_un, b_fmti, b_fmts, b_js, b_jsn, b_jsc, b_booli, b_boolb, b_gcons, b_gnil, cxK, true_and, if_true, if_false, Bool.false_eq_true, Bool.not_true, Bool.not_false, exists_eq_left', exists_eq_left]
    refine ⟨_, rfl, trivial, ?_⟩
    simp only [isIntV, Bool.not_true, e_v0, e_v1, e_v2, e_v3, e_v4, e_vs, e_set0, e_setS, b_2i, b_int, b_intb, b_abs, e_bl, b_if, b_ff, b_tt, b_un, b_fmti, b_fmts, b_js, b_jsn, b_jsc, b_booli, b_boolb, b_gcons, b_gnil, cxK, true_and, if_true, if_false, Bool.false_eq_true, Bool.not_true, Bool.not_false, exists_eq_left', exists_eq_left]
    refine ⟨_, rfl, trivial, ?_⟩
    simp only [isIntV, Bool.not_true, e_v0, e_v1, e_v2, e_v3, e_v4, e_vs, e_set0, e_setS, b_2i, b_int, b_intb, b_abs, e_bl, b_if, b_ff, b_tt, b_un, b_fmti, b_fmts, b_js, b_jsn, b_jsc, b_booli, b_boolb, b_gcons, b_gnil, cxK, true_and, if_true, if_false, Bool.false_eq_true, Bool.not_true, Bool.not_false, exists_eq_left', exists_eq_left]
    refine s_eq d_int d_int ?_
    have e : PyData.eqv (.int b) (.int 0) = false := by rw [PyData.eqv]; simpa using hb
    simp only [e, e_v0, e_v1, e_v2, e_v3, e_v4, e_vs, e_set0, e_setS, b_2i, b_int, b_intb, b_abs, e_bl, b_if, b_ff, b_tt, b_un, b_fmti, b_fmts, b_js, b_jsn, b_jsc, b_booli, b_boolb, b_gcons, b_gnil, cxK, true_and, if_true, if_false, Bool.false_eq_true, Bool.not_true, Bool.not_false, exists_eq_left', exists_eq_left]
    have hp : partI t b ≠ 0 := partI_ne hb
    have hc : ∀ i : Int, CFd i (partI t b) := fun i => ⟨hp, Nat.lt_of_le_of_lt (Nat.le_of_dvd (by omega) (Int.natAbs_dvd_natAbs.mpr (partI_dvd_r t b))) (Nat.lt_of_lt_of_le hbb (Nat.pow_le_pow_right (by decide) (by decide)))⟩
    have fin : ∀ g : Int, g = partI t b → r2i (fun i j H Q => CFd i j ∧ Q (V.int (i.fdiv j)) H) (V.int t) (.int g) H fun y H1 =>
        rSetF K (Str.ofString "top") (V.ref x) y H1 fun H3 =>
          r2i (fun i j H Q => CFd i j ∧ Q (V.int (i.fdiv j)) H) (V.int b) (.int g) H3 fun y H1 =>
            rSetF K (Str.ofString "bottom") (V.ref x) y H1 fun H3 => Q V.non H3 := by
      rintro g rfl
      simp only [e_v0, e_v1, e_v2, e_v3, e_v4, e_vs, e_set0, e_setS, b_2i, b_int, b_intb, b_abs, e_bl, b_if, b_ff, b_tt, b_un, b_fmti, b_fmts, b_js, b_jsn, b_jsc, b_booli, b_boolb, b_gcons, b_gnil, cxK, true_and, if_true, if_false, Bool.false_eq_true, Bool.not_true, Bool.not_false, exists_eq_left', exists_eq_left]
      refine ⟨hc _, s_setF hx T.ins.cl T.nT (by decide) ?_⟩
      refine ⟨hc _, s_setF upd_at T.ins.cl T.nB (by show 1 < 1000; decide) ?_⟩
      rw [upd_upd, rat_put]
      exact q _ upd_at (ExtBut.upd (Ext.but (Ext.refl H)))
    refine ite2 (fun h0 => ?_) (fun h0 => ?_)
    · exact ⟨t, b, rfl, fin _ (by unfold partI gcdI; rw [if_pos h0])⟩
    · exact ⟨t, b, rfl, _, rfl, fin _ (by unfold partI gcdI; rw [if_neg h0])⟩
/-- Ratio(..), as it is seen from outside -/
def spInit2 (C : Addr) : Sp := fun vs H Q E => spInit C vs H Q E ∨ spInit C (vs ++ [.int 1]) H Q E
theorem s_mkRat {H : Hp} {Q : VK} {E : XK} {vs : List V} {t b : Int} (hv : vs = [.int t, .int b] ∨ (vs = [.int t] ∧ b = 1)) (hb : b ≠ 0) (hbb : big b) (q : ∀ a dx H', H a = none → H' a = some (.ins C dx (ratF (lowT t b) (lowB t b))) → Ext H H' → Q (.ref a) H') : rMk C (spInit2 C) E vs H Q := by
  intro x dx hx hdx hne
  have key : ∀ H', H' x = some (.ins C dx (ratF (lowT t b) (lowB t b))) → ExtBut x (upd (upd H dx (.own x)) x (.ins C dx [])) H' → Q (.ref x) H' := fun H' g1 x1 => by
    refine q x dx H' hx g1 (fun c hc => ?_)
    have n1 : c ≠ x := fun z => hc (by rw [z]; exact hx)
    have n2 : c ≠ dx := fun z => hc (by rw [z]; exact hdx)
    have e : (upd (upd H dx (.own x)) x (.ins C dx [])) c = H c := by rw [upd_ne n1, upd_ne n2]
    rw [x1 c (by rw [e]; exact hc) n1, e]
  rcases hv with rfl | ⟨rfl, rfl⟩
  · exact .inl ⟨x, dx, t, b, rfl, upd_same, hb, hbb, fun H' g1 x1 => ⟨rfl, key H' g1 x1⟩⟩
  · exact .inr ⟨x, dx, t, 1, rfl, upd_same, hb, hbb, fun H' g1 x1 => ⟨rfl, key H' g1 x1⟩⟩
theorem s_mkI {H : Hp} {Q : VK} {E : XK} {t b : Int} (hb : b ≠ 0) (hbb : big b) (q : ∀ a dx H', H a = none → H' a = some (.ins C dx (ratF (lowT t b) (lowB t b))) → Ext H H' → Q (.ref a) H') :
    ∀ x dx, H x = none → H dx = none → dx ≠ x → spInit C [.ref x, .int t, .int b] (upd (upd H dx (.own x)) x (.ins C dx [])) (fun v H2 => v = .non ∧ Q (.ref x) H2) E := by
  intro x dx hx hdx hne
  refine ⟨x, dx, t, b, rfl, upd_same, hb, hbb, fun H' g1 x1 => ⟨rfl, q x dx H' hx g1 (fun c hc => ?_)⟩⟩
  have n1 : c ≠ x := fun z => hc (by rw [z]; exact hx)
  have n2 : c ≠ dx := fun z => hc (by rw [z]; exact hdx)
  have e : (upd (upd H dx (.own x)) x (.ins C dx [])) c = H c := by rw [upd_ne n1, upd_ne n2]
  rw [x1 c (by rw [e]; exact hc) n1, e]
theorem gc_rat {f : Addr} {fd : FuncData} (F : FunS K "__init__" "Ratio.__init__" sInit [.int 1] f fd) (G : Glb mg) (T : ClsRat K C) (M : Mk K C f) (gC : mg "Ratio" = some (.ref C)) (gI : GF P w K mg base 1 "is_integer" (spIsInt C)) (gG : mg "gcd" = some (.builtin "math.gcd")) : GC P w K mg base 2 "Ratio" C (spInit2 C) := by
  have ok := ok_init (P := P) (w := w) (base := base) F G T gI gG
  have b0 : FnR P w K mg base (L2.CX P w) 2 f (spInit C) := by
    obtain ⟨ds, hd, b1⟩ := FunD.binds1 (ps := ["self", "top", "bottom"]) F 3 1 (by simp) rfl (fun T' kV doc pm an cdv ct us its hu hi => match us, its, hu, hi with | [_, _, _], [_], _, _ => ⟨_, rfl, rfl⟩)
    cases hd
    exact fnR_of ok b1
  obtain ⟨ds, hd, b1⟩ := FunD.binds1 (ps := ["self", "top", "bottom"]) F 2 0 (by simp) rfl (fun T' kV doc pm an cdv ct us its hu hi => match us, its, hu, hi with | [_, _], [_], _, _ => ⟨_, rfl, rfl⟩)
  have b2 : FnR P w K mg base (L2.CX P w) 2 f (fun vs H Q E => spInit C (vs ++ [.int 1]) H Q E) := fnR_dfl ok b1 hd
  exact ⟨f, gC, M, FnR.or b0 b2⟩
/-! ### the operators -/
abbrev sm (i : Int) : Prop := i.natAbs < 2 ^ 1000
theorem sm_big {i : Int} (h : sm i) : big i := Nat.lt_of_lt_of_le h (Nat.pow_le_pow_right (by decide) (by decide))
theorem cmulB {i j : Int} (h1 : sm i) (h2 : sm j) : CMulU i j := .inr ⟨sm_big h1, sm_big h2⟩
theorem big_mul {i j : Int} (h1 : sm i) (h2 : sm j) : big (i * j) := by
  have := wide_lt h1 h2
  exact Nat.lt_of_lt_of_le this (Nat.pow_le_pow_right (by decide) (by decide))
def spOp (C : Addr) (gT gB : Int → Int → Int → Int → Int) : Sp := fun vs H Q _ => ∃ a dx y t1 b1 t2 b2, vs = [.ref a, y] ∧ H a = some (.ins C dx (ratF t1 b1)) ∧ Num C H y t2 b2 ∧ gB t1 b1 t2 b2 ≠ 0 ∧ sm t1 ∧ sm b1 ∧ sm t2 ∧ sm b2 ∧
  ∀ a' dx' H', Ext H H' → H' a' = some (.ins C dx' (ratF (lowT (gT t1 b1 t2 b2) (gB t1 b1 t2 b2)) (lowB (gT t1 b1 t2 b2) (gB t1 b1 t2 b2)))) → Q (.ref a') H'
abbrev sAdd : Stmt := inClass (topS 13) 3
theorem scAdd : FnScope ["self", "other", "top", "bottom"] ["self", "other"] (defScope sAdd) := ⟨rfl, rfl, rfl, by decide +kernel, rfl, by decide +kernel, by decide +kernel⟩
abbrev spAdd (C : Addr) : Sp := spOp C (fun t1 b1 t2 b2 => t1 * b2 + t2 * b1) (fun t1 b1 t2 b2 => b1 * b2)
theorem ok_add {f : Addr} {fd : FuncData} (F : FunS K "__add__" "Ratio.__add__" sAdd [] f fd) (T : ClsRat K C) (gP : GF P w K mg base 2 "parts_of" (spParts C)) (gO : GF P w K mg base 3 "parts_over" (spPartsO C)) (gR : GC P w K mg base 2 "Ratio" C (spInit2 C)) : FnOk P w K mg base (L2.CX P w) 4 f fd ["self", "other"] (spAdd C) := by
  refine F.ok scAdd (fun vs H Q E h => ?_) (fun cdv A outer s H vs Q E hr h => ?_)
  · obtain ⟨a, dx, y, t1, b1, t2, b2, rfl, _⟩ := h
    rfl
  · obtain ⟨a, dx, y, t1, b1, t2, b2, rfl, ha, hn, hB, m1, m2, m3, m4, q⟩ := h
    refine ⟨_, (pss_cons (ps_asg (pe_fn gP (hr.mono (by decide)) (passes_call (takes_of rfl rfl rfl rfl) (fun _ _ _ _ h => h)) (pa_cons (pv 1) pa_nil)) (pg_unpU (n := 2) rfl (pgs_cons (pg_name (i := 2) scAdd.nd rfl (Or.inl rfl)) (pgs_cons (pg_name (i := 3) scAdd.nd rfl (Or.inl rfl)) pgs_nil))))
      (pss_one (ps_ret (pe_mk gR (hr.mono (by decide)) (passes_call (takes_of rfl rfl rfl rfl) (fun _ _ _ _ h => h)) (pa_cons (pe_op oAdd (pe_op oMul (pe_fldU (K := K) (pv 0)) (pv 3)) (pe_op oMul (pv 2) (pe_fldU (K := K) (pv 0)))) (pa_cons (pe_op oMul (pe_fldU (K := K) (pv 0)) (pv 3)) pa_nil)))))), ?_⟩
    simp only [tSeq, tIfS, tAsg, tRet, tRetN, tDrop, tOp, tUn, tC, tCB, tCons, tNil, gName, gSub, gUnpU, tTest, tB, tNext, tAnd, tOr, tNot, tAndV, tOrV, tNotV, tIf, tLst, tTup, tPar, tPar3, tFn, tMkU, tMtU, tFldU, tSetF, tFmtU, tChain, tSl, tPart, L2.start, List.map_cons, List.map_nil, List.length_cons, List.length_nil, Nat.reduceAdd, Nat.reduceSub, List.reduceReplicate, List.cons_append, List.nil_append, e_v0, e_v1, e_v2, e_v3, e_v4, e_vs, e_set0, e_setS, b_2i, b_int, b_intb, b_abs, e_bl, b_if, b_ff, b_tt, b_un, b_fmti, b_fmts, b_js, b_jsn, b_jsc, b_booli, b_boolb, b_gcons, b_gnil, cxK, true_and, if_true, if_false, Bool.false_eq_true, Bool.not_true, Bool.not_false, exists_eq_left', exists_eq_left]
    refine ⟨y, t2, b2, rfl, hn, fun p H1 x1 g1 => ?_⟩
    refine s_unp g1 rfl ?_
    try simp only [tSeq, tIfS, tAsg, tRet, tRetN, tDrop, tOp, tUn, tC, tCB, tCons, tNil, gName, gSub, gUnpU, tTest, tB, tNext, tAnd, tOr, tNot, tAndV, tOrV, tNotV, tIf, tLst, tTup, tPar, tPar3, tFn, tMkU, tMtU, tFldU, tSetF, tFmtU, tChain, tSl, tPart, L2.start, List.map_cons, List.map_nil, List.length_cons, List.length_nil, Nat.reduceAdd, Nat.reduceSub, List.reduceReplicate, List.cons_append, List.nil_append, e_v0, e_v1, e_v2, e_v3, e_v4, e_vs, e_set0, e_setS, b_2i, b_int, b_intb, b_abs, e_bl, b_if, b_ff, b_tt, b_un, b_fmti, b_fmts, b_js, b_jsn, b_jsc, b_booli, b_boolb, b_gcons, b_gnil, cxK, true_and, if_true, if_false, Bool.false_eq_true, Bool.not_true, Bool.not_false, exists_eq_left', exists_eq_left]
    have ha1 := x1.at ha
    repeat (first | refine s_fld ha1 T.ins.cl T.nT rat_top ?_ | refine s_fld ha1 T.ins.cl T.nB rat_bot ?_ | refine ⟨cmulB (by assumption) (by assumption), ?_⟩ | simp only [e_v0, e_v1, e_v2, e_v3, e_v4, e_vs, e_set0, e_setS, b_2i, b_int, b_intb, b_abs, e_bl, b_if, b_ff, b_tt, b_un, b_fmti, b_fmts, b_js, b_jsn, b_jsc, b_booli, b_boolb, b_gcons, b_gnil, cxK, true_and, if_true, if_false, Bool.false_eq_true, Bool.not_true, Bool.not_false, exists_eq_left', exists_eq_left])
    exact s_mkRat (.inl rfl) hB (big_mul (by assumption) (by assumption)) fun a' dx' H2 n2 g2 x2 => q a' dx' H2 (x1.trans x2) g2
abbrev sRadd : Stmt := inClass (topS 13) 4
theorem scRadd : FnScope ["self", "other", "top", "bottom"] ["self", "other"] (defScope sRadd) := ⟨rfl, rfl, rfl, by decide +kernel, rfl, by decide +kernel, by decide +kernel⟩
abbrev spRadd (C : Addr) : Sp := spOp C (fun t1 b1 t2 b2 => t1 * b2 + t2 * b1) (fun t1 b1 t2 b2 => b1 * b2)
theorem ok_radd {f : Addr} {fd : FuncData} (F : FunS K "__radd__" "Ratio.__radd__" sRadd [] f fd) (T : ClsRat K C) (gP : GF P w K mg base 2 "parts_of" (spParts C)) (gO : GF P w K mg base 3 "parts_over" (spPartsO C)) (gR : GC P w K mg base 2 "Ratio" C (spInit2 C)) : FnOk P w K mg base (L2.CX P w) 4 f fd ["self", "other"] (spRadd C) := by
  refine F.ok scRadd (fun vs H Q E h => ?_) (fun cdv A outer s H vs Q E hr h => ?_)
  · obtain ⟨a, dx, y, t1, b1, t2, b2, rfl, _⟩ := h
    rfl
  · obtain ⟨a, dx, y, t1, b1, t2, b2, rfl, ha, hn, hB, m1, m2, m3, m4, q⟩ := h
    refine ⟨_, (pss_cons (ps_asg (pe_fn gP (hr.mono (by decide)) (passes_call (takes_of rfl rfl rfl rfl) (fun _ _ _ _ h => h)) (pa_cons (pv 1) pa_nil)) (pg_unpU (n := 2) rfl (pgs_cons (pg_name (i := 2) scRadd.nd rfl (Or.inl rfl)) (pgs_cons (pg_name (i := 3) scRadd.nd rfl (Or.inl rfl)) pgs_nil))))
      (pss_one (ps_ret (pe_mk gR (hr.mono (by decide)) (passes_call (takes_of rfl rfl rfl rfl) (fun _ _ _ _ h => h)) (pa_cons (pe_op oAdd (pe_op oMul (pe_fldU (K := K) (pv 0)) (pv 3)) (pe_op oMul (pv 2) (pe_fldU (K := K) (pv 0)))) (pa_cons (pe_op oMul (pe_fldU (K := K) (pv 0)) (pv 3)) pa_nil)))))), ?_⟩
    simp only [tSeq, tIfS, tAsg, tRet, tRetN, tDrop, tOp, tUn, tC, tCB, tCons, tNil, gName, gSub, gUnpU, tTest, tB, tNext, tAnd, tOr, tNot, tAndV, tOrV, tNotV, tIf, tLst, tTup, tPar, tPar3, tFn, tMkU, tMtU, tFldU, tSetF, tFmtU, tChain, tSl, tPart, L2.start, List.map_cons, List.map_nil, List.length_cons, List.length_nil, Nat.reduceAdd, Nat.reduceSub, List.reduceReplicate, List.cons_append, List.nil_append, e_v0, e_v1, e_v2, e_v3, e_v4, e_vs, e_set0, e_setS, b_2i, b_int, b_intb, b_abs, e_bl, b_if, b_ff, b_tt, b_un, b_fmti, b_fmts, b_js, b_jsn, b_jsc, b_booli, b_boolb, b_gcons, b_gnil, cxK, true_and, if_true, if_false, Bool.false_eq_true, Bool.not_true, Bool.not_false, exists_eq_left', exists_eq_left]
    refine ⟨y, t2, b2, rfl, hn, fun p H1 x1 g1 => ?_⟩
    refine s_unp g1 rfl ?_
    try simp only [tSeq, tIfS, tAsg, tRet, tRetN, tDrop, tOp, tUn, tC, tCB, tCons, tNil, gName, gSub, gUnpU, tTest, tB, tNext, tAnd, tOr, tNot, tAndV, tOrV, tNotV, tIf, tLst, tTup, tPar, tPar3, tFn, tMkU, tMtU, tFldU, tSetF, tFmtU, tChain, tSl, tPart, L2.start, List.map_cons, List.map_nil, List.length_cons, List.length_nil, Nat.reduceAdd, Nat.reduceSub, List.reduceReplicate, List.cons_append, List.nil_append, e_v0, e_v1, e_v2, e_v3, e_v4, e_vs, e_set0, e_setS, b_2i, b_int, b_intb, b_abs, e_bl, b_if, b_ff, b_tt, b_un, b_fmti, b_fmts, b_js, b_jsn, b_jsc, b_booli, b_boolb, b_gcons, b_gnil, cxK, true_and, if_true, if_false, Bool.false_eq_true, Bool.not_true, Bool.not_false, exists_eq_left', exists_eq_left]
    have ha1 := x1.at ha
    repeat (first | refine s_fld ha1 T.ins.cl T.nT rat_top ?_ | refine s_fld ha1 T.ins.cl T.nB rat_bot ?_ | refine ⟨cmulB (by assumption) (by assumption), ?_⟩ | simp only [e_v0, e_v1, e_v2, e_v3, e_v4, e_vs, e_set0, e_setS, b_2i, b_int, b_intb, b_abs, e_bl, b_if, b_ff, b_tt, b_un, b_fmti, b_fmts, b_js, b_jsn, b_jsc, b_booli, b_boolb, b_gcons, b_gnil, cxK, true_and, if_true, if_false, Bool.false_eq_true, Bool.not_true, Bool.not_false, exists_eq_left', exists_eq_left])
    exact s_mkRat (.inl rfl) hB (big_mul (by assumption) (by assumption)) fun a' dx' H2 n2 g2 x2 => q a' dx' H2 (x1.trans x2) g2
abbrev sSub : Stmt := inClass (topS 13) 5
theorem scSub : FnScope ["self", "other", "top", "bottom"] ["self", "other"] (defScope sSub) := ⟨rfl, rfl, rfl, by decide +kernel, rfl, by decide +kernel, by decide +kernel⟩
abbrev spSub (C : Addr) : Sp := spOp C (fun t1 b1 t2 b2 => t1 * b2 - t2 * b1) (fun t1 b1 t2 b2 => b1 * b2)
theorem ok_sub {f : Addr} {fd : FuncData} (F : FunS K "__sub__" "Ratio.__sub__" sSub [] f fd) (T : ClsRat K C) (gP : GF P w K mg base 2 "parts_of" (spParts C)) (gO : GF P w K mg base 3 "parts_over" (spPartsO C)) (gR : GC P w K mg base 2 "Ratio" C (spInit2 C)) : FnOk P w K mg base (L2.CX P w) 4 f fd ["self", "other"] (spSub C) := by
  refine F.ok scSub (fun vs H Q E h => ?_) (fun cdv A outer s H vs Q E hr h => ?_)
  · obtain ⟨a, dx, y, t1, b1, t2, b2, rfl, _⟩ := h
    rfl
  · obtain ⟨a, dx, y, t1, b1, t2, b2, rfl, ha, hn, hB, m1, m2, m3, m4, q⟩ := h
    refine ⟨_, (pss_cons (ps_asg (pe_fn gP (hr.mono (by decide)) (passes_call (takes_of rfl rfl rfl rfl) (fun _ _ _ _ h => h)) (pa_cons (pv 1) pa_nil)) (pg_unpU (n := 2) rfl (pgs_cons (pg_name (i := 2) scSub.nd rfl (Or.inl rfl)) (pgs_cons (pg_name (i := 3) scSub.nd rfl (Or.inl rfl)) pgs_nil))))
      (pss_one (ps_ret (pe_mk gR (hr.mono (by decide)) (passes_call (takes_of rfl rfl rfl rfl) (fun _ _ _ _ h => h)) (pa_cons (pe_op oSub (pe_op oMul (pe_fldU (K := K) (pv 0)) (pv 3)) (pe_op oMul (pv 2) (pe_fldU (K := K) (pv 0)))) (pa_cons (pe_op oMul (pe_fldU (K := K) (pv 0)) (pv 3)) pa_nil)))))), ?_⟩
    simp only [tSeq, tIfS, tAsg, tRet, tRetN, tDrop, tOp, tUn, tC, tCB, tCons, tNil, gName, gSub, gUnpU, tTest, tB, tNext, tAnd, tOr, tNot, tAndV, tOrV, tNotV, tIf, tLst, tTup, tPar, tPar3, tFn, tMkU, tMtU, tFldU, tSetF, tFmtU, tChain, tSl, tPart, L2.start, List.map_cons, List.map_nil, List.length_cons, List.length_nil, Nat.reduceAdd, Nat.reduceSub, List.reduceReplicate, List.cons_append, List.nil_append, e_v0, e_v1, e_v2, e_v3, e_v4, e_vs, e_set0, e_setS, b_2i, b_int, b_intb, b_abs, e_bl, b_if, b_ff, b_tt, b_un, b_fmti, b_fmts, b_js, b_jsn, b_jsc, b_booli, b_boolb, b_gcons, b_gnil, cxK, true_and, if_true, if_false, Bool.false_eq_true, Bool.not_true, Bool.not_false, exists_eq_left', exists_eq_left]
    refine ⟨y, t2, b2, rfl, hn, fun p H1 x1 g1 => ?_⟩
    refine s_unp g1 rfl ?_
    try simp only [tSeq, tIfS, tAsg, tRet, tRetN, tDrop, tOp, tUn, tC, tCB, tCons, tNil, gName, gSub, gUnpU, tTest, tB, tNext, tAnd, tOr, tNot, tAndV, tOrV, tNotV, tIf, tLst, tTup, tPar, tPar3, tFn, tMkU, tMtU, tFldU, tSetF, tFmtU, tChain, tSl, tPart, L2.start, List.map_cons, List.map_nil, List.length_cons, List.length_nil, Nat.reduceAdd, Nat.reduceSub, List.reduceReplicate, List.cons_append, List.nil_append, e_v0, e_v1, e_v2, e_v3, e_v4, e_vs, e_set0, e_setS, b_2i, b_int, b_intb, b_abs, e_bl, b_if, b_ff, b_tt, b_un, b_fmti, b_fmts, b_js, b_jsn, b_jsc, b_booli, b_boolb, b_gcons, b_gnil, cxK, true_and, if_true, if_false, Bool.false_eq_true, Bool.not_true, Bool.not_false, exists_eq_left', exists_eq_left]
    have ha1 := x1.at ha
    repeat (first | refine s_fld ha1 T.ins.cl T.nT rat_top ?_ | refine s_fld ha1 T.ins.cl T.nB rat_bot ?_ | refine ⟨cmulB (by assumption) (by assumption), ?_⟩ | simp only [e_v0, e_v1, e_v2, e_v3, e_v4, e_vs, e_set0, e_setS, b_2i, b_int, b_intb, b_abs, e_bl, b_if, b_ff, b_tt, b_un, b_fmti, b_fmts, b_js, b_jsn, b_jsc, b_booli, b_boolb, b_gcons, b_gnil, cxK, true_and, if_true, if_false, Bool.false_eq_true, Bool.not_true, Bool.not_false, exists_eq_left', exists_eq_left])
    exact s_mkRat (.inl rfl) hB (big_mul (by assumption) (by assumption)) fun a' dx' H2 n2 g2 x2 => q a' dx' H2 (x1.trans x2) g2
abbrev sRsub : Stmt := inClass (topS 13) 6
theorem scRsub : FnScope ["self", "other", "top", "bottom"] ["self", "other"] (defScope sRsub) := ⟨rfl, rfl, rfl, by decide +kernel, rfl, by decide +kernel, by decide +kernel⟩
abbrev spRsub (C : Addr) : Sp := spOp C (fun t1 b1 t2 b2 => t2 * b1 - t1 * b2) (fun t1 b1 t2 b2 => b1 * b2)
theorem ok_rsub {f : Addr} {fd : FuncData} (F : FunS K "__rsub__" "Ratio.__rsub__" sRsub [] f fd) (T : ClsRat K C) (gP : GF P w K mg base 2 "parts_of" (spParts C)) (gO : GF P w K mg base 3 "parts_over" (spPartsO C)) (gR : GC P w K mg base 2 "Ratio" C (spInit2 C)) : FnOk P w K mg base (L2.CX P w) 4 f fd ["self", "other"] (spRsub C) := by
  refine F.ok scRsub (fun vs H Q E h => ?_) (fun cdv A outer s H vs Q E hr h => ?_)
  · obtain ⟨a, dx, y, t1, b1, t2, b2, rfl, _⟩ := h
    rfl
  · obtain ⟨a, dx, y, t1, b1, t2, b2, rfl, ha, hn, hB, m1, m2, m3, m4, q⟩ := h
    refine ⟨_, (pss_cons (ps_asg (pe_fn gP (hr.mono (by decide)) (passes_call (takes_of rfl rfl rfl rfl) (fun _ _ _ _ h => h)) (pa_cons (pv 1) pa_nil)) (pg_unpU (n := 2) rfl (pgs_cons (pg_name (i := 2) scRsub.nd rfl (Or.inl rfl)) (pgs_cons (pg_name (i := 3) scRsub.nd rfl (Or.inl rfl)) pgs_nil))))
      (pss_one (ps_ret (pe_mk gR (hr.mono (by decide)) (passes_call (takes_of rfl rfl rfl rfl) (fun _ _ _ _ h => h)) (pa_cons (pe_op oSub (pe_op oMul (pv 2) (pe_fldU (K := K) (pv 0))) (pe_op oMul (pe_fldU (K := K) (pv 0)) (pv 3))) (pa_cons (pe_op oMul (pe_fldU (K := K) (pv 0)) (pv 3)) pa_nil)))))), ?_⟩
    simp only [tSeq, tIfS, tAsg, tRet, tRetN, tDrop, tOp, tUn, tC, tCB, tCons, tNil, gName, gSub, gUnpU, tTest, tB, tNext, tAnd, tOr, tNot, tAndV, tOrV, tNotV, tIf, tLst, tTup, tPar, tPar3, tFn, tMkU, tMtU, tFldU, tSetF, tFmtU, tChain, tSl, tPart, L2.start, List.map_cons, List.map_nil, List.length_cons, List.length_nil, Nat.reduceAdd, Nat.reduceSub, List.reduceReplicate, List.cons_append, List.nil_append, e_v0, e_v1, e_v2, e_v3, e_v4, e_vs, e_set0, e_setS, b_2i, b_int, b_intb, b_abs, e_bl, b_if, b_ff, b_tt, b_un, b_fmti, b_fmts, b_js, b_jsn, b_jsc, b_booli, b_boolb, b_gcons, b_gnil, cxK, true_and, if_true, if_false, Bool.false_eq_true, Bool.not_true, Bool.not_false, exists_eq_left', exists_eq_left]
    refine ⟨y, t2, b2, rfl, hn, fun p H1 x1 g1 => ?_⟩
    refine s_unp g1 rfl ?_
    try simp only [tSeq, tIfS, tAsg, tRet, tRetN, tDrop, tOp, tUn, tC, tCB, tCons, tNil, gName, gSub, gUnpU, tTest, tB, tNext, tAnd, tOr, tNot, tAndV, tOrV, tNotV, tIf, tLst, tTup, tPar, tPar3, tFn, tMkU, tMtU, tFldU, tSetF, tFmtU, tChain, tSl, tPart, L2.start, List.map_cons, List.map_nil, List.length_cons, List.length_nil, Nat.reduceAdd, Nat.reduceSub, List.reduceReplicate, List.cons_append, List.nil_append, e_v0, e_v1, e_v2, e_v3, e_v4, e_vs, e_set0, e_setS, b_2i, b_int, b_intb, b_abs, e_bl, b_if, b_ff, b_tt, b_un, b_fmti, b_fmts, b_js, b_jsn, b_jsc, b_booli, b_boolb, b_gcons, b_gnil, cxK, true_and, if_true, if_false, Bool.false_eq_true, Bool.not_true, Bool.not_false, exists_eq_left', exists_eq_left]
    have ha1 := x1.at ha
    repeat (first | refine s_fld ha1 T.ins.cl T.nT rat_top ?_ | refine s_fld ha1 T.ins.cl T.nB rat_bot ?_ | refine ⟨cmulB (by assumption) (by assumption), ?_⟩ | simp only [e_v0, e_v1, e_v2, e_v3, e_v4, e_vs, e_set0, e_setS, b_2i, b_int, b_intb, b_abs, e_bl, b_if, b_ff, b_tt, b_un, b_fmti, b_fmts, b_js, b_jsn, b_jsc, b_booli, b_boolb, b_gcons, b_gnil, cxK, true_and, if_true, if_false, Bool.false_eq_true, Bool.not_true, Bool.not_false, exists_eq_left', exists_eq_left])
    exact s_mkRat (.inl rfl) hB (big_mul (by assumption) (by assumption)) fun a' dx' H2 n2 g2 x2 => q a' dx' H2 (x1.trans x2) g2
abbrev sMul : Stmt := inClass (topS 13) 7
theorem scMul : FnScope ["self", "other", "top", "bottom"] ["self", "other"] (defScope sMul) := ⟨rfl, rfl, rfl, by decide +kernel, rfl, by decide +kernel, by decide +kernel⟩
abbrev spMul (C : Addr) : Sp := spOp C (fun t1 b1 t2 b2 => t1 * t2) (fun t1 b1 t2 b2 => b1 * b2)
theorem ok_mul {f : Addr} {fd : FuncData} (F : FunS K "__mul__" "Ratio.__mul__" sMul [] f fd) (T : ClsRat K C) (gP : GF P w K mg base 2 "parts_of" (spParts C)) (gO : GF P w K mg base 3 "parts_over" (spPartsO C)) (gR : GC P w K mg base 2 "Ratio" C (spInit2 C)) : FnOk P w K mg base (L2.CX P w) 4 f fd ["self", "other"] (spMul C) := by
  refine F.ok scMul (fun vs H Q E h => ?_) (fun cdv A outer s H vs Q E hr h => ?_)
  · obtain ⟨a, dx, y, t1, b1, t2, b2, rfl, _⟩ := h
    rfl
  · obtain ⟨a, dx, y, t1, b1, t2, b2, rfl, ha, hn, hB, m1, m2, m3, m4, q⟩ := h
    refine ⟨_, (pss_cons (ps_asg (pe_fn gP (hr.mono (by decide)) (passes_call (takes_of rfl rfl rfl rfl) (fun _ _ _ _ h => h)) (pa_cons (pv 1) pa_nil)) (pg_unpU (n := 2) rfl (pgs_cons (pg_name (i := 2) scMul.nd rfl (Or.inl rfl)) (pgs_cons (pg_name (i := 3) scMul.nd rfl (Or.inl rfl)) pgs_nil))))
      (pss_one (ps_ret (pe_mk gR (hr.mono (by decide)) (passes_call (takes_of rfl rfl rfl rfl) (fun _ _ _ _ h => h)) (pa_cons (pe_op oMul (pe_fldU (K := K) (pv 0)) (pv 2)) (pa_cons (pe_op oMul (pe_fldU (K := K) (pv 0)) (pv 3)) pa_nil)))))), ?_⟩
    simp only [tSeq, tIfS, tAsg, tRet, tRetN, tDrop, tOp, tUn, tC, tCB, tCons, tNil, gName, gSub, gUnpU, tTest, tB, tNext, tAnd, tOr, tNot, tAndV, tOrV, tNotV, tIf, tLst, tTup, tPar, tPar3, tFn, tMkU, tMtU, tFldU, tSetF, tFmtU, tChain, tSl, tPart, L2.start, List.map_cons, List.map_nil, List.length_cons, List.length_nil, Nat.reduceAdd, Nat.reduceSub, List.reduceReplicate, List.cons_append, List.nil_append, e_v0, e_v1, e_v2, e_v3, e_v4, e_vs, e_set0, e_setS, b_2i, b_int, b_intb, b_abs, e_bl, b_if, b_ff, b_tt, b_un, b_fmti, b_fmts, b_js, b_jsn, b_jsc, b_booli, b_boolb, b_gcons, b_gnil, cxK, true_and, if_true, if_false, Bool.false_eq_true, Bool.not_true, Bool.not_false, exists_eq_left', exists_eq_left]
    refine ⟨y, t2, b2, rfl, hn, fun p H1 x1 g1 => ?_⟩
    refine s_unp g1 rfl ?_
    try simp only [tSeq, tIfS, tAsg, tRet, tRetN, tDrop, tOp, tUn, tC, tCB, tCons, tNil, gName, gSub, gUnpU, tTest, tB, tNext, tAnd, tOr, tNot, tAndV, tOrV, tNotV, tIf, tLst, tTup, tPar, tPar3, tFn, tMkU, tMtU, tFldU, tSetF, tFmtU, tChain, tSl, tPart, L2.start, List.map_cons, List.map_nil, List.length_cons, List.length_nil, Nat.reduceAdd, Nat.reduceSub, List.reduceReplicate, List.cons_append, List.nil_append, e_v0, e_v1, e_v2, e_v3, e_v4, e_vs, e_set0, e_setS, b_2i, b_int, b_intb, b_abs, e_bl, b_if, b_ff, b_tt, b_un, b_fmti, b_fmts, b_js, b_jsn, b_jsc, b_booli, b_boolb, b_gcons, b_gnil, cxK, true_and, if_true, if_false, Bool.false_eq_true, Bool.not_true, Bool.not_false, exists_eq_left', exists_eq_left]
    have ha1 := x1.at ha
    repeat (first | refine s_fld ha1 T.ins.cl T.nT rat_top ?_ | refine s_fld ha1 T.ins.cl T.nB rat_bot ?_ | refine ⟨cmulB (by assumption) (by assumption), ?_⟩ | simp only [e_v0, e_v1, e_v2, e_v3, e_v4, e_vs, e_set0, e_setS, b_2i, b_int, b_intb, b_abs, e_bl, b_if, b_ff, b_tt, b_un, b_fmti, b_fmts, b_js, b_jsn, b_jsc, b_booli, b_boolb, b_gcons, b_gnil, cxK, true_and, if_true, if_false, Bool.false_eq_true, Bool.not_true, Bool.not_false, exists_eq_left', exists_eq_left])
    exact s_mkRat (.inl rfl) hB (big_mul (by assumption) (by assumption)) fun a' dx' H2 n2 g2 x2 => q a' dx' H2 (x1.trans x2) g2
abbrev sRmul : Stmt := inClass (topS 13) 8
theorem scRmul : FnScope ["self", "other", "top", "bottom"] ["self", "other"] (defScope sRmul) := ⟨rfl, rfl, rfl, by decide +kernel, rfl, by decide +kernel, by decide +kernel⟩
abbrev spRmul (C : Addr) : Sp := spOp C (fun t1 b1 t2 b2 => t1 * t2) (fun t1 b1 t2 b2 => b1 * b2)
theorem ok_rmul {f : Addr} {fd : FuncData} (F : FunS K "__rmul__" "Ratio.__rmul__" sRmul [] f fd) (T : ClsRat K C) (gP : GF P w K mg base 2 "parts_of" (spParts C)) (gO : GF P w K mg base 3 "parts_over" (spPartsO C)) (gR : GC P w K mg base 2 "Ratio" C (spInit2 C)) : FnOk P w K mg base (L2.CX P w) 4 f fd ["self", "other"] (spRmul C) := by
  refine F.ok scRmul (fun vs H Q E h => ?_) (fun cdv A outer s H vs Q E hr h => ?_)
  · obtain ⟨a, dx, y, t1, b1, t2, b2, rfl, _⟩ := h
    rfl
  · obtain ⟨a, dx, y, t1, b1, t2, b2, rfl, ha, hn, hB, m1, m2, m3, m4, q⟩ := h
    refine ⟨_, (pss_cons (ps_asg (pe_fn gP (hr.mono (by decide)) (passes_call (takes_of rfl rfl rfl rfl) (fun _ _ _ _ h => h)) (pa_cons (pv 1) pa_nil)) (pg_unpU (n := 2) rfl (pgs_cons (pg_name (i := 2) scRmul.nd rfl (Or.inl rfl)) (pgs_cons (pg_name (i := 3) scRmul.nd rfl (Or.inl rfl)) pgs_nil))))
      (pss_one (ps_ret (pe_mk gR (hr.mono (by decide)) (passes_call (takes_of rfl rfl rfl rfl) (fun _ _ _ _ h => h)) (pa_cons (pe_op oMul (pe_fldU (K := K) (pv 0)) (pv 2)) (pa_cons (pe_op oMul (pe_fldU (K := K) (pv 0)) (pv 3)) pa_nil)))))), ?_⟩
    simp only [tSeq, tIfS, tAsg, tRet, tRetN, tDrop, tOp, tUn, tC, tCB, tCons, tNil, gName, gSub, gUnpU, tTest, tB, tNext, tAnd, tOr, tNot, tAndV, tOrV, tNotV, tIf, tLst, tTup, tPar, tPar3, tFn, tMkU, tMtU, tFldU, tSetF, tFmtU, tChain, tSl, tPart, L2.start, List.map_cons, List.map_nil, List.length_cons, List.length_nil, Nat.reduceAdd, Nat.reduceSub, List.reduceReplicate, List.cons_append, List.nil_append, e_v0, e_v1, e_v2, e_v3, e_v4, e_vs, e_set0, e_setS, b_2i, b_int, b_intb, b_abs, e_bl, b_if, b_ff, b_tt, b_un, b_fmti, b_fmts, b_js, b_jsn, b_jsc, b_booli, b_boolb, b_gcons, b_gnil, cxK, true_and, if_true, if_false, Bool.false_eq_true, Bool.not_true, Bool.not_false, exists_eq_left', exists_eq_left]
    refine ⟨y, t2, b2, rfl, hn, fun p H1 x1 g1 => ?_⟩
    refine s_unp g1 rfl ?_
    try simp only [tSeq, tIfS, tAsg, tRet, tRetN, tDrop, tOp, tUn, tC, tCB, tCons, tNil, gName, gSub, gUnpU, tTest, tB, tNext, tAnd, tOr, tNot, tAndV, tOrV, tNotV, tIf, tLst, tTup, tPar, tPar3, tFn, tMkU, tMtU, tFldU, tSetF, tFmtU, tChain, tSl, tPart, L2.start, List.map_cons, List.map_nil, List.length_cons, List.length_nil, Nat.reduceAdd, Nat.reduceSub, List.reduceReplicate, List.cons_append, List.nil_append, e_v0, e_v1, e_v2, e_v3, e_v4, e_vs, e_set0, e_setS, b_2i, b_int, b_intb, b_abs, e_bl, b_if, b_ff, b_tt, b_un, b_fmti, b_fmts, b_js, b_jsn, b_jsc, b_booli, b_boolb, b_gcons, b_gnil, cxK, true_and, if_true, if_false, Bool.false_eq_true, Bool.not_true, Bool.not_false, exists_eq_left', exists_eq_left]
    have ha1 := x1.at ha
    repeat (first | refine s_fld ha1 T.ins.cl T.nT rat_top ?_ | refine s_fld ha1 T.ins.cl T.nB rat_bot ?_ | refine ⟨cmulB (by assumption) (by assumption), ?_⟩ | simp only [e_v0, e_v1, e_v2, e_v3, e_v4, e_vs, e_set0, e_setS, b_2i, b_int, b_intb, b_abs, e_bl, b_if, b_ff, b_tt, b_un, b_fmti, b_fmts, b_js, b_jsn, b_jsc, b_booli, b_boolb, b_gcons, b_gnil, cxK, true_and, if_true, if_false, Bool.false_eq_true, Bool.not_true, Bool.not_false, exists_eq_left', exists_eq_left])
    exact s_mkRat (.inl rfl) hB (big_mul (by assumption) (by assumption)) fun a' dx' H2 n2 g2 x2 => q a' dx' H2 (x1.trans x2) g2
/-- -ratio -/
def spNeg (C : Addr) : Sp := fun vs H Q _ => ∃ a dx t1 b1, vs = [.ref a] ∧ H a = some (.ins C dx (ratF t1 b1)) ∧ b1 ≠ 0 ∧ sm b1 ∧
  ∀ a' dx' H', Ext H H' → H' a' = some (.ins C dx' (ratF (lowT (-t1) b1) (lowB (-t1) b1))) → Q (.ref a') H'
abbrev sNeg : Stmt := inClass (topS 13) 9
theorem scNeg : FnScope ["self"] ["self"] (defScope sNeg) := ⟨rfl, rfl, rfl, by decide +kernel, rfl, by decide +kernel, by decide +kernel⟩
theorem ok_neg {f : Addr} {fd : FuncData} (F : FunS K "__neg__" "Ratio.__neg__" sNeg [] f fd) (T : ClsRat K C) (gR : GC P w K mg base 2 "Ratio" C (spInit2 C)) : FnOk P w K mg base (L2.CX P w) 4 f fd ["self"] (spNeg C) := by
  refine F.ok scNeg (fun vs H Q E h => ?_) (fun cdv A outer s H vs Q E hr h => ?_)
  · obtain ⟨a, dx, t1, b1, rfl, _⟩ := h
    rfl
  · obtain ⟨a, dx, t1, b1, rfl, ha, hb, m2, q⟩ := h
    refine ⟨_, (pss_one (ps_ret (pe_mk gR (hr.mono (by decide)) (passes_call (takes_of rfl rfl rfl rfl) (fun _ _ _ _ h => h)) (pa_cons (pe_un un_neg (pe_fldU (K := K) (pv 0))) (pa_cons (pe_fldU (K := K) (pv 0)) pa_nil))))), ?_⟩
    simp only [tSeq, tIfS, tAsg, tRet, tRetN, tDrop, tOp, tUn, tC, tCB, tCons, tNil, gName, gSub, gUnpU, tTest, tB, tNext, tAnd, tOr, tNot, tAndV, tOrV, tNotV, tIf, tLst, tTup, tPar, tPar3, tFn, tMkU, tMtU, tFldU, tSetF, tFmtU, tChain, tSl, tPart, L2.start, List.map_cons, List.map_nil, List.length_cons, List.length_nil, Nat.reduceAdd, Nat.reduceSub, List.reduceReplicate, List.cons_append, List.nil_append, e_v0, e_v1, e_v2, e_v3, e_v4, e_vs, e_set0, e_setS, b_2i, b_int, b_intb, b_abs, e_bl, b_if, b_ff, b_tt, b_un, b_fmti, b_fmts, b_js, b_jsn, b_jsc, b_booli, b_boolb, b_gcons, b_gnil, cxK, true_and, if_true, if_false, Bool.false_eq_true, Bool.not_true, Bool.not_false, exists_eq_left', exists_eq_left]
    refine s_fld ha T.ins.cl T.nT rat_top ?_
    simp only [e_v0, e_v1, e_v2, e_v3, e_v4, e_vs, e_set0, e_setS, b_2i, b_int, b_intb, b_abs, e_bl, b_if, b_ff, b_tt, b_un, b_fmti, b_fmts, b_js, b_jsn, b_jsc, b_booli, b_boolb, b_gcons, b_gnil, cxK, true_and, if_true, if_false, Bool.false_eq_true, Bool.not_true, Bool.not_false, exists_eq_left', exists_eq_left]
    refine s_fld ha T.ins.cl T.nB rat_bot ?_
    exact s_mkRat (.inl rfl) hb (sm_big m2) fun a' dx' H2 n2 g2 x2 => q a' dx' H2 x2 g2
/-- bool(ratio) -/
def spBool (C : Addr) : Sp := fun vs H Q _ => ∃ a dx t1 b1, vs = [.ref a] ∧ H a = some (.ins C dx (ratF t1 b1)) ∧ Q (.bl (!(t1 == 0))) H
/-- ratio == value -/
def spEq (C : Addr) : Sp := fun vs H Q _ => ∃ a dx y t1 b1, vs = [.ref a, y] ∧ H a = some (.ins C dx (ratF t1 b1)) ∧ ((∃ t2 b2 dx' a', y = .ref a' ∧ H a' = some (.ins C dx' (ratF t2 b2)) ∧ Q (.bl (t1 == t2 && b1 == b2)) H) ∨
  (∃ i, y = .int i ∧ Q (.bl (b1 == 1 && t1 == i)) H) ∨ ((y = .non ∨ (∃ b, y = .bl b) ∨ (∃ z, y = .str z) ∨ ∃ p xs, y = .ref p ∧ H p = some (.tup xs)) ∧ Q (.bl false) H))
abbrev sBool : Stmt := inClass (topS 13) 19
theorem scBool : FnScope ["self"] ["self"] (defScope sBool) := ⟨rfl, rfl, rfl, by decide +kernel, rfl, by decide +kernel, by decide +kernel⟩
theorem ok_bool {f : Addr} {fd : FuncData} (F : FunS K "__bool__" "Ratio.__bool__" sBool [] f fd) (G : Glb mg) (T : ClsRat K C) : FnOk P w K mg base (L2.CX P w) 1 f fd ["self"] (spBool C) := by
  refine F.ok scBool (fun vs H Q E h => ?_) (fun cdv A outer s H vs Q E hr h => ?_)
  · obtain ⟨a, dx, t1, b1, rfl, _⟩ := h
    rfl
  · obtain ⟨a, dx, t1, b1, rfl, ha, q⟩ := h
    have hu := hr.units
    refine ⟨_, (pss_one (ps_ret (pe_callTy cBool (by rfl) G.bool boot_bool (pa_cons (pe_cmpR (oNe hu) (pe_fldU (K := K) (pv 0)) pe_int (nomark _)) pa_nil)))), ?_⟩
    simp only [tSeq, tIfS, tAsg, tRet, tRetN, tDrop, tOp, tUn, tC, tCB, tCons, tNil, gName, gSub, gUnpU, tTest, tB, tNext, tAnd, tOr, tNot, tAndV, tOrV, tNotV, tIf, tLst, tTup, tPar, tPar3, tFn, tMkU, tMtU, tFldU, tSetF, tFmtU, tChain, tSl, tPart, L2.start, List.map_cons, List.map_nil, List.length_cons, List.length_nil, Nat.reduceAdd, Nat.reduceSub, List.reduceReplicate, List.cons_append, List.nil_append, e_v0, e_v1, e_v2, e_v3, e_v4, e_vs, e_set0, e_setS, b_2i, b_int, b_intb, b_abs, e_bl, b_if, b_ff, b_tt, b_un, b_fmti, b_fmts, b_js, b_jsn, b_jsc, b_booli, b_boolb, b_gcons, b_gnil, cxK, true_and, if_true, if_false, Bool.false_eq_true, Bool.not_true, Bool.not_false, exists_eq_left', exists_eq_left]
    refine s_fld ha T.ins.cl T.nT rat_top ?_
    refine s_ne d_int d_int ?_
    simp only [e_v0, e_v1, e_v2, e_v3, e_v4, e_vs, e_set0, e_setS, b_2i, b_int, b_intb, b_abs, e_bl, b_if, b_ff, b_tt, b_un, b_fmti, b_fmts, b_js, b_jsn, b_jsc, b_booli, b_boolb, b_gcons, b_gnil, cxK, true_and, if_true, if_false, Bool.false_eq_true, Bool.not_true, Bool.not_false, exists_eq_left', exists_eq_left, PyData.eqv]
    exact q
abbrev sEq : Stmt := inClass (topS 13) 18
theorem scEq : FnScope ["self", "other"] ["self", "other"] (defScope sEq) := ⟨rfl, rfl, rfl, by decide +kernel, rfl, by decide +kernel, by decide +kernel⟩
theorem ok_eq {f : Addr} {fd : FuncData} (F : FunS K "__eq__" "Ratio.__eq__" sEq [] f fd) (G : Glb mg) (T : ClsRat K C) (gC : mg "Ratio" = some (.ref C)) (gI : GF P w K mg base 1 "is_integer" (spIsInt C)) : FnOk P w K mg base (L2.CX P w) 2 f fd ["self", "other"] (spEq C) := by
  refine F.ok scEq (fun vs H Q E h => ?_) (fun cdv A outer s H vs Q E hr h => ?_)
  · obtain ⟨a, dx, y, t1, b1, rfl, _⟩ := h
    rfl
  · obtain ⟨a, dx, y, t1, b1, rfl, ha, h⟩ := h
    have hu := hr.units
    refine ⟨_, (pss_cons (ps_if (pt_val (pe_callB cIsi (by rfl) G.isinstance boot_isinstance (pa_cons (pv 1) (pa_cons (pe_glob (v := .ref C) (by rfl) gC rfl) pa_nil)))) (pss_one (ps_ret (pe_and (pe_cmpR (oEq hu) (pe_fldU (K := K) (pv 0)) (pe_fldU (K := K) (pv 1)) (nomark _)) (pe_one (pe_cmpR (oEq hu) (pe_fldU (K := K) (pv 0)) (pe_fldU (K := K) (pv 1)) (nomark _)))))) pss_nil)
      (pss_one (ps_ret (pe_and (pe_fn gI (hr.mono (by decide)) (passes_call (takes_of rfl rfl rfl rfl) (fun _ _ _ _ h => h)) (pa_cons (pv 1) pa_nil)) (pe_and (pe_cmpR (oEq hu) (pe_fldU (K := K) (pv 0)) pe_int (nomark _)) (pe_one (pe_cmpR (oEq hu) (pe_fldU (K := K) (pv 0)) (pv 1) (nomark _)))))))), ?_⟩
    simp only [tSeq, tIfS, tAsg, tRet, tRetN, tDrop, tOp, tUn, tC, tCB, tCons, tNil, gName, gSub, gUnpU, tTest, tB, tNext, tAnd, tOr, tNot, tAndV, tOrV, tNotV, tIf, tLst, tTup, tPar, tPar3, tFn, tMkU, tMtU, tFldU, tSetF, tFmtU, tChain, tSl, tPart, L2.start, List.map_cons, List.map_nil, List.length_cons, List.length_nil, Nat.reduceAdd, Nat.reduceSub, List.reduceReplicate, List.cons_append, List.nil_append, e_v0, e_v1, e_v2, e_v3, e_v4, e_vs, e_set0, e_setS, b_2i, b_int, b_intb, b_abs, e_bl, b_if, b_ff, b_tt, b_un, b_fmti, b_fmts, b_js, b_jsn, b_jsc, b_booli, b_boolb, b_gcons, b_gnil, cxK, true_and, if_true, if_false, Bool.false_eq_true, Bool.not_true, Bool.not_false, exists_eq_left', exists_eq_left]
    rcases h with ⟨t2, b2, dx', a', rfl, ha', q⟩ | ⟨i, rfl, q⟩ | ⟨h, q⟩
    · refine s_isi rfl (t_ins ha' T.ins T.k_self) ?_
      simp only [e_v0, e_v1, e_v2, e_v3, e_v4, e_vs, e_set0, e_setS, b_2i, b_int, b_intb, b_abs, e_bl, b_if, b_ff, b_tt, b_un, b_fmti, b_fmts, b_js, b_jsn, b_jsc, b_booli, b_boolb, b_gcons, b_gnil, cxK, true_and, if_true, if_false, Bool.false_eq_true, Bool.not_true, Bool.not_false, exists_eq_left', exists_eq_left]
      refine s_fld ha T.ins.cl T.nT rat_top ?_
      refine s_fld ha' T.ins.cl T.nT rat_top ?_
      refine s_eq d_int d_int ?_
      simp only [e_v0, e_v1, e_v2, e_v3, e_v4, e_vs, e_set0, e_setS, b_2i, b_int, b_intb, b_abs, e_bl, b_if, b_ff, b_tt, b_un, b_fmti, b_fmts, b_js, b_jsn, b_jsc, b_booli, b_boolb, b_gcons, b_gnil, cxK, true_and, if_true, if_false, Bool.false_eq_true, Bool.not_true, Bool.not_false, exists_eq_left', exists_eq_left, PyData.eqv]
      cases e : (t1 == t2) with
      | false =>
        rw [e] at q
        simp only [e_v0, e_v1, e_v2, e_v3, e_v4, e_vs, e_set0, e_setS, b_2i, b_int, b_intb, b_abs, e_bl, b_if, b_ff, b_tt, b_un, b_fmti, b_fmts, b_js, b_jsn, b_jsc, b_booli, b_boolb, b_gcons, b_gnil, cxK, true_and, if_true, if_false, Bool.false_eq_true, Bool.not_true, Bool.not_false, exists_eq_left', exists_eq_left]
        exact q
      | true =>
        rw [e] at q
        simp only [e_v0, e_v1, e_v2, e_v3, e_v4, e_vs, e_set0, e_setS, b_2i, b_int, b_intb, b_abs, e_bl, b_if, b_ff, b_tt, b_un, b_fmti, b_fmts, b_js, b_jsn, b_jsc, b_booli, b_boolb, b_gcons, b_gnil, cxK, true_and, if_true, if_false, Bool.false_eq_true, Bool.not_true, Bool.not_false, exists_eq_left', exists_eq_left]
        refine s_fld ha T.ins.cl T.nB rat_bot ?_
        refine s_fld ha' T.ins.cl T.nB rat_bot ?_
        refine s_eq d_int d_int ?_
        simp only [PyData.eqv]
        exact q
    · refine s_isi rfl T.k_int ?_
      simp only [e_v0, e_v1, e_v2, e_v3, e_v4, e_vs, e_set0, e_setS, b_2i, b_int, b_intb, b_abs, e_bl, b_if, b_ff, b_tt, b_un, b_fmti, b_fmts, b_js, b_jsn, b_jsc, b_booli, b_boolb, b_gcons, b_gnil, cxK, true_and, if_true, if_false, Bool.false_eq_true, Bool.not_true, Bool.not_false, exists_eq_left', exists_eq_left]
      refine ⟨_, rfl, trivial, ?_⟩
      simp only [isIntV, e_v0, e_v1, e_v2, e_v3, e_v4, e_vs, e_set0, e_setS, b_2i, b_int, b_intb, b_abs, e_bl, b_if, b_ff, b_tt, b_un, b_fmti, b_fmts, b_js, b_jsn, b_jsc, b_booli, b_boolb, b_gcons, b_gnil, cxK, true_and, if_true, if_false, Bool.false_eq_true, Bool.not_true, Bool.not_false, exists_eq_left', exists_eq_left]
      refine s_fld ha T.ins.cl T.nB rat_bot ?_
      refine s_eq d_int d_int ?_
      simp only [e_v0, e_v1, e_v2, e_v3, e_v4, e_vs, e_set0, e_setS, b_2i, b_int, b_intb, b_abs, e_bl, b_if, b_ff, b_tt, b_un, b_fmti, b_fmts, b_js, b_jsn, b_jsc, b_booli, b_boolb, b_gcons, b_gnil, cxK, true_and, if_true, if_false, Bool.false_eq_true, Bool.not_true, Bool.not_false, exists_eq_left', exists_eq_left, PyData.eqv]
      cases e : (b1 == 1) with
      | false =>
        rw [e] at q
        simp only [e_v0, e_v1, e_v2, e_v3, e_v4, e_vs, e_set0, e_setS, b_2i, b_int, b_intb, b_abs, e_bl, b_if, b_ff, b_tt, b_un, b_fmti, b_fmts, b_js, b_jsn, b_jsc, b_booli, b_boolb, b_gcons, b_gnil, cxK, true_and, if_true, if_false, Bool.false_eq_true, Bool.not_true, Bool.not_false, exists_eq_left', exists_eq_left]
        exact q
      | true =>
        rw [e] at q
        simp only [e_v0, e_v1, e_v2, e_v3, e_v4, e_vs, e_set0, e_setS, b_2i, b_int, b_intb, b_abs, e_bl, b_if, b_ff, b_tt, b_un, b_fmti, b_fmts, b_js, b_jsn, b_jsc, b_booli, b_boolb, b_gcons, b_gnil, cxK, true_and, if_true, if_false, Bool.false_eq_true, Bool.not_true, Bool.not_false, exists_eq_left', exists_eq_left]
        refine s_fld ha T.ins.cl T.nT rat_top ?_
        refine s_eq d_int d_int ?_
        simp only [PyData.eqv]
        exact q
    · rcases h with rfl | ⟨b, rfl⟩ | ⟨z, rfl⟩ | ⟨p, xs, rfl, hp⟩
      · refine s_isi rfl T.k_none ?_
        simp only [e_v0, e_v1, e_v2, e_v3, e_v4, e_vs, e_set0, e_setS, b_2i, b_int, b_intb, b_abs, e_bl, b_if, b_ff, b_tt, b_un, b_fmti, b_fmts, b_js, b_jsn, b_jsc, b_booli, b_boolb, b_gcons, b_gnil, cxK, true_and, if_true, if_false, Bool.false_eq_true, Bool.not_true, Bool.not_false, exists_eq_left', exists_eq_left]
        refine ⟨_, rfl, trivial, ?_⟩
        simp only [isIntV, e_v0, e_v1, e_v2, e_v3, e_v4, e_vs, e_set0, e_setS, b_2i, b_int, b_intb, b_abs, e_bl, b_if, b_ff, b_tt, b_un, b_fmti, b_fmts, b_js, b_jsn, b_jsc, b_booli, b_boolb, b_gcons, b_gnil, cxK, true_and, if_true, if_false, Bool.false_eq_true, Bool.not_true, Bool.not_false, exists_eq_left', exists_eq_left]
        exact q
      · refine s_isi rfl T.k_bool ?_
        simp only [e_v0, e_v1, e_v2, e_v3, e_v4, e_vs, e_set0, e_setS, b_2i, b_int, b_intb, b_abs, e_bl, b_if, b_ff, b_tt, b_un, b_fmti, b_fmts, b_js, b_jsn, b_jsc, b_booli, b_boolb, b_gcons, b_gnil, cxK, true_and, if_true, if_false, Bool.false_eq_true, Bool.not_true, Bool.not_false, exists_eq_left', exists_eq_left]
        refine ⟨_, rfl, trivial, ?_⟩
        simp only [isIntV, e_v0, e_v1, e_v2, e_v3, e_v4, e_vs, e_set0, e_setS, b_2i, b_int, b_intb, b_abs, e_bl, b_if, b_ff, b_tt, b_un, b_fmti, b_fmts, b_js, b_jsn, b_jsc, b_booli, b_boolb, b_gcons, b_gnil, cxK, true_and, if_true, if_false, Bool.false_eq_true, Bool.not_true, Bool.not_false, exists_eq_left', exists_eq_left]
        exact q
      · refine s_isi rfl T.k_str ?_
        simp only [e_v0, e_v1, e_v2, e_v3, e_v4, e_vs, e_set0, e_setS, b_2i, b_int, b_intb, b_abs, e_bl, b_if, b_ff, b_tt, b_un, b_fmti, b_fmts, b_js, b_jsn, b_jsc, b_booli, b_boolb, b_gcons, b_gnil, cxK, true_and, if_true, if_false, Bool.false_eq_true, Bool.not_true, Bool.not_false, exists_eq_left', exists_eq_left]
        refine ⟨_, rfl, trivial, ?_⟩
        simp only [isIntV, e_v0, e_v1, e_v2, e_v3, e_v4, e_vs, e_set0, e_setS, b_2i, b_int, b_intb, b_abs, e_bl, b_if, b_ff, b_tt, b_un, b_fmti, b_fmts, b_js, b_jsn, b_jsc, b_booli, b_boolb, b_gcons, b_gnil, cxK, true_and, if_true, if_false, Bool.false_eq_true, Bool.not_true, Bool.not_false, exists_eq_left', exists_eq_left]
        exact q
      · refine s_isi rfl (t_tup hp T.k_tup) ?_
        simp only [e_v0, e_v1, e_v2, e_v3, e_v4, e_vs, e_set0, e_setS, b_2i, b_int, b_intb, b_abs, e_bl, b_if, b_ff, b_tt, b_un, b_fmti, b_fmts, b_js, b_jsn, b_jsc, b_booli, b_boolb, b_gcons, b_gnil, cxK, true_and, if_true, if_false, Bool.false_eq_true, Bool.not_true, Bool.not_false, exists_eq_left', exists_eq_left]
        refine ⟨_, rfl, by unfold askOk; simp only [hp], ?_⟩
        simp only [isIntV, e_v0, e_v1, e_v2, e_v3, e_v4, e_vs, e_set0, e_setS, b_2i, b_int, b_intb, b_abs, e_bl, b_if, b_ff, b_tt, b_un, b_fmti, b_fmts, b_js, b_jsn, b_jsc, b_booli, b_boolb, b_gcons, b_gnil, cxK, true_and, if_true, if_false, Bool.false_eq_true, Bool.not_true, Bool.not_false, exists_eq_left', exists_eq_left]
        exact q
theorem str_len_app (x y : Str) : (x ++ y).length = x.length + y.length := by
  show (x.cps ++ y.cps).size = _
  rw [Array.size_append]; rfl
/-- str(ratio) -/
def ratS (t b : Int) : Str := if b = 1 then ((toString t : String) : Str) else Str.empty ++ ((toString t : String) : Str) ++ ("/" : Str) ++ ((toString b : String) : Str)
theorem len_int (i : Int) (h : i.natAbs.log2 < 1920) : ((toString i : String) : Str).length ≤ 2000 := by
  exact Nat.le_trans (int_text_len_1921 h) (by decide)
def spStr (C : Addr) : Sp := fun vs H Q _ => ∃ a dx t1 b1, vs = [.ref a] ∧ H a = some (.ins C dx (ratF t1 b1)) ∧ t1.natAbs.log2 < 1920 ∧ b1.natAbs.log2 < 1920 ∧ Q (.str (ratS t1 b1)) H
abbrev sStr : Stmt := inClass (topS 13) 20
theorem scStr : FnScope ["self"] ["self"] (defScope sStr) := ⟨rfl, rfl, rfl, by decide +kernel, rfl, by decide +kernel, by decide +kernel⟩
theorem ok_str {f : Addr} {fd : FuncData} (F : FunS K "__str__" "Ratio.__str__" sStr [] f fd) (G : Glb mg) (T : ClsRat K C) : FnOk P w K mg base (L2.CX P w) 1 f fd ["self"] (spStr C) := by
  refine F.ok scStr (fun vs H Q E h => ?_) (fun cdv A outer s H vs Q E hr h => ?_)
  · obtain ⟨a, dx, t1, b1, rfl, _⟩ := h
    rfl
  · obtain ⟨a, dx, t1, b1, rfl, ha, l1, l2, q⟩ := h
    have hu := hr.units
    refine ⟨_, (pss_cons (ps_if (pt_cmpR (oEq hu) (pe_fldU (K := K) (pv 0)) pe_int (nomark _)) (pss_one (ps_ret (pe_joined1 (pe_fmtU (pe_fldU (K := K) (pv 0)))))) pss_nil)
      (pss_one (ps_ret (pe_joinedU (.cons (pe_fmtU (pe_fldU (K := K) (pv 0))) (.cons pe_str (.cons (pe_fmtU (pe_fldU (K := K) (pv 0))) .nil))))))), ?_⟩
    simp only [tSeq, tIfS, tAsg, tRet, tRetN, tDrop, tOp, tUn, tC, tCB, tCons, tNil, gName, gSub, gUnpU, tTest, tB, tNext, tAnd, tOr, tNot, tAndV, tOrV, tNotV, tIf, tLst, tTup, tPar, tPar3, tFn, tMkU, tMtU, tFldU, tSetF, tFmtU, tChain, tSl, tPart, L2.start, List.map_cons, List.map_nil, List.length_cons, List.length_nil, Nat.reduceAdd, Nat.reduceSub, List.reduceReplicate, List.cons_append, List.nil_append, e_v0, e_v1, e_v2, e_v3, e_v4, e_vs, e_set0, e_setS, b_2i, b_int, b_intb, b_abs, e_bl, b_if, b_ff, b_tt, b_un, b_fmti, b_fmts, b_js, b_jsn, b_jsc, b_booli, b_boolb, b_gcons, b_gnil, cxK, true_and, if_true, if_false, Bool.false_eq_true, Bool.not_true, Bool.not_false, exists_eq_left', exists_eq_left]
    refine s_fld ha T.ins.cl T.nB rat_bot ?_
    refine s_eq d_int d_int ?_
    simp only [e_v0, e_v1, e_v2, e_v3, e_v4, e_vs, e_set0, e_setS, b_2i, b_int, b_intb, b_abs, e_bl, b_if, b_ff, b_tt, b_un, b_fmti, b_fmts, b_js, b_jsn, b_jsc, b_booli, b_boolb, b_gcons, b_gnil, cxK, true_and, if_true, if_false, Bool.false_eq_true, Bool.not_true, Bool.not_false, exists_eq_left', exists_eq_left, PyData.eqv]
    have f1 := len_int t1 l1
    have f2 := len_int b1 l2
    by_cases e : b1 = 1
    · subst e
      simp only [beq_self_eq_true, e_v0, e_v1, e_v2, e_v3, e_v4, e_vs, e_set0, e_setS, b_2i, b_int, b_intb, b_abs, e_bl, b_if, b_ff, b_tt, b_un, b_fmti, b_fmts, b_js, b_jsn, b_jsc, b_booli, b_boolb, b_gcons, b_gnil, cxK, true_and, if_true, if_false, Bool.false_eq_true, Bool.not_true, Bool.not_false, exists_eq_left', exists_eq_left]
      refine s_fld ha T.ins.cl T.nT rat_top ?_
      simp only [e_v0, e_v1, e_v2, e_v3, e_v4, e_vs, e_set0, e_setS, b_2i, b_int, b_intb, b_abs, e_bl, b_if, b_ff, b_tt, b_un, b_fmti, b_fmts, b_js, b_jsn, b_jsc, b_booli, b_boolb, b_gcons, b_gnil, cxK, true_and, if_true, if_false, Bool.false_eq_true, Bool.not_true, Bool.not_false, exists_eq_left', exists_eq_left]
      exact ⟨l1, q⟩
    · have e2 : (b1 == 1) = false := by simpa using e
      simp only [e2, e_v0, e_v1, e_v2, e_v3, e_v4, e_vs, e_set0, e_setS, b_2i, b_int, b_intb, b_abs, e_bl, b_if, b_ff, b_tt, b_un, b_fmti, b_fmts, b_js, b_jsn, b_jsc, b_booli, b_boolb, b_gcons, b_gnil, cxK, true_and, if_true, if_false, Bool.false_eq_true, Bool.not_true, Bool.not_false, exists_eq_left', exists_eq_left]
      have q2 : Q (.str (Str.empty ++ ((toString t1 : String) : Str) ++ ("/" : Str) ++ ((toString b1 : String) : Str))) H := by
        unfold ratS at q
        rw [if_neg e] at q
        exact q
      have len : ∀ (x y : Str) (n m : Nat), x.length ≤ n → y.length ≤ m → (x ++ y).length ≤ n + m := fun x y n m h1 h2 => by
        rw [str_len_app]; omega
      have g0 := len Str.empty ((toString t1 : String) : Str) 0 2000 (Nat.le_refl _) f1
      have g1 := len _ ("/" : Str) _ 1 g0 (by decide +kernel)
      have g2 := len _ ((toString b1 : String) : Str) _ _ g1 f2
      have hz : 4001 ≤ sizeLine := by decide
      refine s_fld ha T.ins.cl T.nT rat_top ?_
      simp only [e_v0, e_v1, e_v2, e_v3, e_v4, e_vs, e_set0, e_setS, b_2i, b_int, b_intb, b_abs, e_bl, b_if, b_ff, b_tt, b_un, b_fmti, b_fmts, b_js, b_jsn, b_jsc, b_booli, b_boolb, b_gcons, b_gnil, cxK, true_and, if_true, if_false, Bool.false_eq_true, Bool.not_true, Bool.not_false, exists_eq_left', exists_eq_left]
      refine ⟨l1, by omega, by omega, ?_⟩
      refine s_fld ha T.ins.cl T.nB rat_bot ?_
      simp only [e_v0, e_v1, e_v2, e_v3, e_v4, e_vs, e_set0, e_setS, b_2i, b_int, b_intb, b_abs, e_bl, b_if, b_ff, b_tt, b_un, b_fmti, b_fmts, b_js, b_jsn, b_jsc, b_booli, b_boolb, b_gcons, b_gnil, cxK, true_and, if_true, if_false, Bool.false_eq_true, Bool.not_true, Bool.not_false, exists_eq_left', exists_eq_left]
      exact ⟨l2, by omega, q2⟩
end
end Wp

set_option maxHeartbeats 4000000
namespace Wp
open PySem PySem.W L2 PyProof.Rows
theorem mul_pow {i j : Int} {m n : Nat} (h1 : i.natAbs < 2 ^ m) (h2 : j.natAbs < 2 ^ n) : (i * j).natAbs < 2 ^ (m + n) := by
  rw [Int.natAbs_mul, Nat.pow_add]
  exact Nat.mul_lt_mul'' h1 h2
theorem up_pow {i : Int} {m n : Nat} (h : i.natAbs < 2 ^ m) (l : m ≤ n) : i.natAbs < 2 ^ n := Nat.lt_of_lt_of_le h (Nat.pow_le_pow_right (by decide) l)
theorem fdiv_abs (a b : Int) : (a.fdiv b).natAbs ≤ a.natAbs := by
  rcases Int.lt_trichotomy b 0 with h | h | h
  · have e : a.fdiv b = (-a).fdiv (-b) := (Int.neg_fdiv_neg a b).symm
    rw [e, Int.fdiv_eq_ediv_of_nonneg _ (by omega)]
    have := Int.natAbs_ediv_le_natAbs (-a) (-b)
    rwa [Int.natAbs_neg] at this
  · subst h; simp
  · rw [Int.fdiv_eq_ediv_of_nonneg _ (by omega)]
    exact Int.natAbs_ediv_le_natAbs a b
section
variable {P : Program} {w : World} {K : PySem.W.Frag} {mg : Str → Option Value} {base : Heap} {C : Addr}
/-- ratio < number and the like -/
def spCmp (C : Addr) (r : Int → Int → Bool) : Sp := fun vs H Q _ => ∃ a dx y t1 b1 t2 b2, vs = [.ref a, y] ∧ H a = some (.ins C dx (ratF t1 b1)) ∧ Num C H y t2 b2 ∧ sm t1 ∧ sm b1 ∧ sm t2 ∧ sm b2 ∧ ∀ H', Ext H H' → Q (.bl (r (t1 * b2) (t2 * b1))) H'
abbrev sLt : Stmt := inClass (topS 13) 14
theorem scLt : FnScope ["self", "other", "top", "bottom"] ["self", "other"] (defScope sLt) := ⟨rfl, rfl, rfl, by decide +kernel, rfl, by decide +kernel, by decide +kernel⟩
theorem ok_lt {f : Addr} {fd : FuncData} (F : FunS K "__lt__" "Ratio.__lt__" sLt [] f fd) (G : Glb mg) (T : ClsRat K C) (gP : GF P w K mg base 2 "parts_of" (spParts C)) : FnOk P w K mg base (L2.CX P w) 4 f fd ["self", "other"] (spCmp C fun i j => decide (i < j)) := by
  refine F.ok scLt (fun vs H Q E h => ?_) (fun cdv A outer s H vs Q E hr h => ?_)
  · obtain ⟨a, dx, y, t1, b1, t2, b2, rfl, _⟩ := h
    rfl
  · obtain ⟨a, dx, y, t1, b1, t2, b2, rfl, ha, hn, m1, m2, m3, m4, q⟩ := h
    refine ⟨_, (pss_cons (ps_asg (pe_fn gP (hr.mono (by decide)) (passes_call (takes_of rfl rfl rfl rfl) (fun _ _ _ _ h => h)) (pa_cons (pv 1) pa_nil)) (pg_unpU (n := 2) rfl (pgs_cons (pg_name (i := 2) scLt.nd rfl (Or.inl rfl)) (pgs_cons (pg_name (i := 3) scLt.nd rfl (Or.inl rfl)) pgs_nil))))
      (pss_one (ps_ret (pe_cmpR oLt (pe_callTy cInt (by rfl) G.int boot_int (pa_cons (pe_op oMul (pe_fldU (K := K) (pv 0)) (pv 3)) pa_nil)) (pe_callTy cInt (by rfl) G.int boot_int (pa_cons (pe_op oMul (pv 2) (pe_fldU (K := K) (pv 0))) pa_nil)) (nomark _))))), ?_⟩
    simp only [tSeq, tIfS, tAsg, tRet, tRetN, tDrop, tOp, tUn, tC, tCB, tCons, tNil, gName, gSub, gUnpU, tTest, tB, tNext, tAnd, tOr, tNot, tAndV, tOrV, tNotV, tIf, tLst, tTup, tPar, tPar3, tFn, tMkU, tMtU, tFldU, tSetF, tFmtU, tChain, tSl, tPart, L2.start, List.map_cons, List.map_nil, List.length_cons, List.length_nil, Nat.reduceAdd, Nat.reduceSub, List.reduceReplicate, List.cons_append, List.nil_append, e_v0, e_v1, e_v2, e_v3, e_v4, e_vs, e_set0, e_setS, b_2i, b_int, b_intb, b_abs, e_bl, b_if, b_ff, b_tt, b_un, b_fmti, b_fmts, b_js, b_jsn, b_jsc, b_booli, b_boolb, b_gcons, b_gnil, cxK, true_and, if_true, if_false, Bool.false_eq_true, Bool.not_true, Bool.not_false, exists_eq_left', exists_eq_left]
    refine ⟨y, t2, b2, rfl, hn, fun p H1 x1 g1 => ?_⟩
    refine s_unp g1 rfl ?_
    try simp only [tSeq, tIfS, tAsg, tRet, tRetN, tDrop, tOp, tUn, tC, tCB, tCons, tNil, gName, gSub, gUnpU, tTest, tB, tNext, tAnd, tOr, tNot, tAndV, tOrV, tNotV, tIf, tLst, tTup, tPar, tPar3, tFn, tMkU, tMtU, tFldU, tSetF, tFmtU, tChain, tSl, tPart, L2.start, List.map_cons, List.map_nil, List.length_cons, List.length_nil, Nat.reduceAdd, Nat.reduceSub, List.reduceReplicate, List.cons_append, List.nil_append, e_v0, e_v1, e_v2, e_v3, e_v4, e_vs, e_set0, e_setS, b_2i, b_int, b_intb, b_abs, e_bl, b_if, b_ff, b_tt, b_un, b_fmti, b_fmts, b_js, b_jsn, b_jsc, b_booli, b_boolb, b_gcons, b_gnil, cxK, true_and, if_true, if_false, Bool.false_eq_true, Bool.not_true, Bool.not_false, exists_eq_left', exists_eq_left]
    have ha1 := x1.at ha
    repeat (first | refine s_fld ha1 T.ins.cl T.nT rat_top ?_ | refine s_fld ha1 T.ins.cl T.nB rat_bot ?_ | refine ⟨cmulB (by assumption) (by assumption), ?_⟩ | simp only [e_v0, e_v1, e_v2, e_v3, e_v4, e_vs, e_set0, e_setS, b_2i, b_int, b_intb, b_abs, e_bl, b_if, b_ff, b_tt, b_un, b_fmti, b_fmts, b_js, b_jsn, b_jsc, b_booli, b_boolb, b_gcons, b_gnil, cxK, true_and, if_true, if_false, Bool.false_eq_true, Bool.not_true, Bool.not_false, exists_eq_left', exists_eq_left])
    exact q H1 x1
abbrev sLe : Stmt := inClass (topS 13) 15
theorem scLe : FnScope ["self", "other", "top", "bottom"] ["self", "other"] (defScope sLe) := ⟨rfl, rfl, rfl, by decide +kernel, rfl, by decide +kernel, by decide +kernel⟩
theorem ok_le {f : Addr} {fd : FuncData} (F : FunS K "__le__" "Ratio.__le__" sLe [] f fd) (G : Glb mg) (T : ClsRat K C) (gP : GF P w K mg base 2 "parts_of" (spParts C)) : FnOk P w K mg base (L2.CX P w) 4 f fd ["self", "other"] (spCmp C fun i j => decide (i ≤ j)) := by
  refine F.ok scLe (fun vs H Q E h => ?_) (fun cdv A outer s H vs Q E hr h => ?_)
  · obtain ⟨a, dx, y, t1, b1, t2, b2, rfl, _⟩ := h
    rfl
  · obtain ⟨a, dx, y, t1, b1, t2, b2, rfl, ha, hn, m1, m2, m3, m4, q⟩ := h
    refine ⟨_, (pss_cons (ps_asg (pe_fn gP (hr.mono (by decide)) (passes_call (takes_of rfl rfl rfl rfl) (fun _ _ _ _ h => h)) (pa_cons (pv 1) pa_nil)) (pg_unpU (n := 2) rfl (pgs_cons (pg_name (i := 2) scLe.nd rfl (Or.inl rfl)) (pgs_cons (pg_name (i := 3) scLe.nd rfl (Or.inl rfl)) pgs_nil))))
      (pss_one (ps_ret (pe_cmpR oLe (pe_callTy cInt (by rfl) G.int boot_int (pa_cons (pe_op oMul (pe_fldU (K := K) (pv 0)) (pv 3)) pa_nil)) (pe_callTy cInt (by rfl) G.int boot_int (pa_cons (pe_op oMul (pv 2) (pe_fldU (K := K) (pv 0))) pa_nil)) (nomark _))))), ?_⟩
    simp only [tSeq, tIfS, tAsg, tRet, tRetN, tDrop, tOp, tUn, tC, tCB, tCons, tNil, gName, gSub, gUnpU, tTest, tB, tNext, tAnd, tOr, tNot, tAndV, tOrV, tNotV, tIf, tLst, tTup, tPar, tPar3, tFn, tMkU, tMtU, tFldU, tSetF, tFmtU, tChain, tSl, tPart, L2.start, List.map_cons, List.map_nil, List.length_cons, List.length_nil, Nat.reduceAdd, Nat.reduceSub, List.reduceReplicate, List.cons_append, List.nil_append, e_v0, e_v1, e_v2, e_v3, e_v4, e_vs, e_set0, e_setS, b_2i, b_int, b_intb, b_abs, e_bl, b_if, b_ff, b_tt, b_un, b_fmti, b_fmts, b_js, b_jsn, b_jsc, b_booli, b_boolb, b_gcons, b_gnil, cxK, true_and, if_true, if_false, Bool.false_eq_true, Bool.not_true, Bool.not_false, exists_eq_left', exists_eq_left]
    refine ⟨y, t2, b2, rfl, hn, fun p H1 x1 g1 => ?_⟩
    refine s_unp g1 rfl ?_
    try simp only [tSeq, tIfS, tAsg, tRet, tRetN, tDrop, tOp, tUn, tC, tCB, tCons, tNil, gName, gSub, gUnpU, tTest, tB, tNext, tAnd, tOr, tNot, tAndV, tOrV, tNotV, tIf, tLst, tTup, tPar, tPar3, tFn, tMkU, tMtU, tFldU, tSetF, tFmtU, tChain, tSl, tPart, L2.start, List.map_cons, List.map_nil, List.length_cons, List.length_nil, Nat.reduceAdd, Nat.reduceSub, List.reduceReplicate, List.cons_append, List.nil_append, e_v0, e_v1, e_v2, e_v3, e_v4, e_vs, e_set0, e_setS, b_2i, b_int, b_intb, b_abs, e_bl, b_if, b_ff, b_tt, b_un, b_fmti, b_fmts, b_js, b_jsn, b_jsc, b_booli, b_boolb, b_gcons, b_gnil, cxK, true_and, if_true, if_false, Bool.false_eq_true, Bool.not_true, Bool.not_false, exists_eq_left', exists_eq_left]
    have ha1 := x1.at ha
    repeat (first | refine s_fld ha1 T.ins.cl T.nT rat_top ?_ | refine s_fld ha1 T.ins.cl T.nB rat_bot ?_ | refine ⟨cmulB (by assumption) (by assumption), ?_⟩ | simp only [e_v0, e_v1, e_v2, e_v3, e_v4, e_vs, e_set0, e_setS, b_2i, b_int, b_intb, b_abs, e_bl, b_if, b_ff, b_tt, b_un, b_fmti, b_fmts, b_js, b_jsn, b_jsc, b_booli, b_boolb, b_gcons, b_gnil, cxK, true_and, if_true, if_false, Bool.false_eq_true, Bool.not_true, Bool.not_false, exists_eq_left', exists_eq_left])
    exact q H1 x1
abbrev sGt : Stmt := inClass (topS 13) 16
theorem scGt : FnScope ["self", "other", "top", "bottom"] ["self", "other"] (defScope sGt) := ⟨rfl, rfl, rfl, by decide +kernel, rfl, by decide +kernel, by decide +kernel⟩
theorem ok_gt {f : Addr} {fd : FuncData} (F : FunS K "__gt__" "Ratio.__gt__" sGt [] f fd) (G : Glb mg) (T : ClsRat K C) (gP : GF P w K mg base 2 "parts_of" (spParts C)) : FnOk P w K mg base (L2.CX P w) 4 f fd ["self", "other"] (spCmp C fun i j => decide (j < i)) := by
  refine F.ok scGt (fun vs H Q E h => ?_) (fun cdv A outer s H vs Q E hr h => ?_)
  · obtain ⟨a, dx, y, t1, b1, t2, b2, rfl, _⟩ := h
    rfl
  · obtain ⟨a, dx, y, t1, b1, t2, b2, rfl, ha, hn, m1, m2, m3, m4, q⟩ := h
    refine ⟨_, (pss_cons (ps_asg (pe_fn gP (hr.mono (by decide)) (passes_call (takes_of rfl rfl rfl rfl) (fun _ _ _ _ h => h)) (pa_cons (pv 1) pa_nil)) (pg_unpU (n := 2) rfl (pgs_cons (pg_name (i := 2) scGt.nd rfl (Or.inl rfl)) (pgs_cons (pg_name (i := 3) scGt.nd rfl (Or.inl rfl)) pgs_nil))))
      (pss_one (ps_ret (pe_cmpR oGt (pe_callTy cInt (by rfl) G.int boot_int (pa_cons (pe_op oMul (pe_fldU (K := K) (pv 0)) (pv 3)) pa_nil)) (pe_callTy cInt (by rfl) G.int boot_int (pa_cons (pe_op oMul (pv 2) (pe_fldU (K := K) (pv 0))) pa_nil)) (nomark _))))), ?_⟩
    simp only [tSeq, tIfS, tAsg, tRet, tRetN, tDrop, tOp, tUn, tC, tCB, tCons, tNil, gName, gSub, gUnpU, tTest, tB, tNext, tAnd, tOr, tNot, tAndV, tOrV, tNotV, tIf, tLst, tTup, tPar, tPar3, tFn, tMkU, tMtU, tFldU, tSetF, tFmtU, tChain, tSl, tPart, L2.start, List.map_cons, List.map_nil, List.length_cons, List.length_nil, Nat.reduceAdd, Nat.reduceSub, List.reduceReplicate, List.cons_append, List.nil_append, e_v0, e_v1, e_v2, e_v3, e_v4, e_vs, e_set0, e_setS, b_2i, b_int, b_intb, b_abs, e_bl, b_if, b_ff, b_tt, b_un, b_fmti, b_fmts, b_js, b_jsn, b_jsc, b_booli, b_boolb, b_gcons, b_gnil, cxK, true_and, if_true, if_false, Bool.false_eq_true, Bool.not_true, Bool.not_false, exists_eq_left', exists_eq_left]
    refine ⟨y, t2, b2, rfl, hn, fun p H1 x1 g1 => ?_⟩
    refine s_unp g1 rfl ?_
    try simp only [tSeq, tIfS, tAsg, tRet, tRetN, tDrop, tOp, tUn, tC, tCB, tCons, tNil, gName, gSub, gUnpU, tTest, tB, tNext, tAnd, tOr, tNot, tAndV, tOrV, tNotV, tIf, tLst, tTup, tPar, tPar3, tFn, tMkU, tMtU, tFldU, tSetF, tFmtU, tChain, tSl, tPart, L2.start, List.map_cons, List.map_nil, List.length_cons, List.length_nil, Nat.reduceAdd, Nat.reduceSub, List.reduceReplicate, List.cons_append, List.nil_append, e_v0, e_v1, e_v2, e_v3, e_v4, e_vs, e_set0, e_setS, b_2i, b_int, b_intb, b_abs, e_bl, b_if, b_ff, b_tt, b_un, b_fmti, b_fmts, b_js, b_jsn, b_jsc, b_booli, b_boolb, b_gcons, b_gnil, cxK, true_and, if_true, if_false, Bool.false_eq_true, Bool.not_true, Bool.not_false, exists_eq_left', exists_eq_left]
    have ha1 := x1.at ha
    repeat (first | refine s_fld ha1 T.ins.cl T.nT rat_top ?_ | refine s_fld ha1 T.ins.cl T.nB rat_bot ?_ | refine ⟨cmulB (by assumption) (by assumption), ?_⟩ | simp only [e_v0, e_v1, e_v2, e_v3, e_v4, e_vs, e_set0, e_setS, b_2i, b_int, b_intb, b_abs, e_bl, b_if, b_ff, b_tt, b_un, b_fmti, b_fmts, b_js, b_jsn, b_jsc, b_booli, b_boolb, b_gcons, b_gnil, cxK, true_and, if_true, if_false, Bool.false_eq_true, Bool.not_true, Bool.not_false, exists_eq_left', exists_eq_left])
    exact q H1 x1
abbrev sGe : Stmt := inClass (topS 13) 17
theorem scGe : FnScope ["self", "other", "top", "bottom"] ["self", "other"] (defScope sGe) := ⟨rfl, rfl, rfl, by decide +kernel, rfl, by decide +kernel, by decide +kernel⟩
theorem ok_ge {f : Addr} {fd : FuncData} (F : FunS K "__ge__" "Ratio.__ge__" sGe [] f fd) (G : Glb mg) (T : ClsRat K C) (gP : GF P w K mg base 2 "parts_of" (spParts C)) : FnOk P w K mg base (L2.CX P w) 4 f fd ["self", "other"] (spCmp C fun i j => decide (j ≤ i)) := by
  refine F.ok scGe (fun vs H Q E h => ?_) (fun cdv A outer s H vs Q E hr h => ?_)
  · obtain ⟨a, dx, y, t1, b1, t2, b2, rfl, _⟩ := h
    rfl
  · obtain ⟨a, dx, y, t1, b1, t2, b2, rfl, ha, hn, m1, m2, m3, m4, q⟩ := h
    refine ⟨_, (pss_cons (ps_asg (pe_fn gP (hr.mono (by decide)) (passes_call (takes_of rfl rfl rfl rfl) (fun _ _ _ _ h => h)) (pa_cons (pv 1) pa_nil)) (pg_unpU (n := 2) rfl (pgs_cons (pg_name (i := 2) scGe.nd rfl (Or.inl rfl)) (pgs_cons (pg_name (i := 3) scGe.nd rfl (Or.inl rfl)) pgs_nil))))
      (pss_one (ps_ret (pe_cmpR oGe (pe_callTy cInt (by rfl) G.int boot_int (pa_cons (pe_op oMul (pe_fldU (K := K) (pv 0)) (pv 3)) pa_nil)) (pe_callTy cInt (by rfl) G.int boot_int (pa_cons (pe_op oMul (pv 2) (pe_fldU (K := K) (pv 0))) pa_nil)) (nomark _))))), ?_⟩
    simp only [tSeq, tIfS, tAsg, tRet, tRetN, tDrop, tOp, tUn, tC, tCB, tCons, tNil, gName, gSub, gUnpU, tTest, tB, tNext, tAnd, tOr, tNot, tAndV, tOrV, tNotV, tIf, tLst, tTup, tPar, tPar3, tFn, tMkU, tMtU, tFldU, tSetF, tFmtU, tChain, tSl, tPart, L2.start, List.map_cons, List.map_nil, List.length_cons, List.length_nil, Nat.reduceAdd, Nat.reduceSub, List.reduceReplicate, List.cons_append, List.nil_append, e_v0, e_v1, e_v2, e_v3, e_v4, e_vs, e_set0, e_setS, b_2i, b_int, b_intb, b_abs, e_bl, b_if, b_ff, b_tt, b_un, b_fmti, b_fmts, b_js, b_jsn, b_jsc, b_booli, b_boolb, b_gcons, b_gnil, cxK, true_and, if_true, if_false, Bool.false_eq_true, Bool.not_true, Bool.not_false, exists_eq_left', exists_eq_left]
    refine ⟨y, t2, b2, rfl, hn, fun p H1 x1 g1 => ?_⟩
    refine s_unp g1 rfl ?_
    try simp only [tSeq, tIfS, tAsg, tRet, tRetN, tDrop, tOp, tUn, tC, tCB, tCons, tNil, gName, gSub, gUnpU, tTest, tB, tNext, tAnd, tOr, tNot, tAndV, tOrV, tNotV, tIf, tLst, tTup, tPar, tPar3, tFn, tMkU, tMtU, tFldU, tSetF, tFmtU, tChain, tSl, tPart, L2.start, List.map_cons, List.map_nil, List.length_cons, List.length_nil, Nat.reduceAdd, Nat.reduceSub, List.reduceReplicate, List.cons_append, List.nil_append, e_v0, e_v1, e_v2, e_v3, e_v4, e_vs, e_set0, e_setS, b_2i, b_int, b_intb, b_abs, e_bl, b_if, b_ff, b_tt, b_un, b_fmti, b_fmts, b_js, b_jsn, b_jsc, b_booli, b_boolb, b_gcons, b_gnil, cxK, true_and, if_true, if_false, Bool.false_eq_true, Bool.not_true, Bool.not_false, exists_eq_left', exists_eq_left]
    have ha1 := x1.at ha
    repeat (first | refine s_fld ha1 T.ins.cl T.nT rat_top ?_ | refine s_fld ha1 T.ins.cl T.nB rat_bot ?_ | refine ⟨cmulB (by assumption) (by assumption), ?_⟩ | simp only [e_v0, e_v1, e_v2, e_v3, e_v4, e_vs, e_set0, e_setS, b_2i, b_int, b_intb, b_abs, e_bl, b_if, b_ff, b_tt, b_un, b_fmti, b_fmts, b_js, b_jsn, b_jsc, b_booli, b_boolb, b_gcons, b_gnil, cxK, true_and, if_true, if_false, Bool.false_eq_true, Bool.not_true, Bool.not_false, exists_eq_left', exists_eq_left])
    exact q H1 x1
/-- ratio // number -/
def spFd (C : Addr) : Sp := fun vs H Q _ => ∃ a dx y t1 b1 t2 b2, vs = [.ref a, y] ∧ H a = some (.ins C dx (ratF t1 b1)) ∧ Num C H y t2 b2 ∧ t2 ≠ 0 ∧ b1 ≠ 0 ∧ sm t1 ∧ sm b1 ∧ sm t2 ∧ sm b2 ∧ ∀ H', Ext H H' → Q (.int ((t1 * b2).fdiv (b1 * t2))) H'
theorem cfd {i j : Int} (h0 : j ≠ 0) (h1 : j.natAbs < 2 ^ 2000) : CFd i j := ⟨h0, up_pow h1 (by decide)⟩
abbrev sFd : Stmt := inClass (topS 13) 10
theorem scFd : FnScope ["self", "other", "top", "bottom"] ["self", "other"] (defScope sFd) := ⟨rfl, rfl, rfl, by decide +kernel, rfl, by decide +kernel, by decide +kernel⟩
theorem ok_fd {f : Addr} {fd : FuncData} (F : FunS K "__floordiv__" "Ratio.__floordiv__" sFd [] f fd) (T : ClsRat K C) (gO : GF P w K mg base 3 "parts_over" (spPartsO C)) : FnOk P w K mg base (L2.CX P w) 4 f fd ["self", "other"] (spFd C) := by
  refine F.ok scFd (fun vs H Q E h => ?_) (fun cdv A outer s H vs Q E hr h => ?_)
  · obtain ⟨a, dx, y, t1, b1, t2, b2, rfl, _⟩ := h
    rfl
  · obtain ⟨a, dx, y, t1, b1, t2, b2, rfl, ha, hn, h2, hb, m1, m2, m3, m4, q⟩ := h
    refine ⟨_, (pss_cons (ps_asg (pe_fn gO (hr.mono (by decide)) (passes_call (takes_of rfl rfl rfl rfl) (fun _ _ _ _ h => h)) (pa_cons (pv 1) pa_nil)) (pg_unpU (n := 2) rfl (pgs_cons (pg_name (i := 2) scFd.nd rfl (Or.inl rfl)) (pgs_cons (pg_name (i := 3) scFd.nd rfl (Or.inl rfl)) pgs_nil))))
      (pss_one (ps_ret (pe_op oFdivN (pe_op oMul (pe_fldU (K := K) (pv 0)) (pv 3)) (pe_op oMul (pe_fldU (K := K) (pv 0)) (pv 2)))))), ?_⟩
    simp only [tSeq, tIfS, tAsg, tRet, tRetN, tDrop, tOp, tUn, tC, tCB, tCons, tNil, gName, gSub, gUnpU, tTest, tB, tNext, tAnd, tOr, tNot, tAndV, tOrV, tNotV, tIf, tLst, tTup, tPar, tPar3, tFn, tMkU, tMtU, tFldU, tSetF, tFmtU, tChain, tSl, tPart, L2.start, List.map_cons, List.map_nil, List.length_cons, List.length_nil, Nat.reduceAdd, Nat.reduceSub, List.reduceReplicate, List.cons_append, List.nil_append, e_v0, e_v1, e_v2, e_v3, e_v4, e_vs, e_set0, e_setS, b_2i, b_int, b_intb, b_abs, e_bl, b_if, b_ff, b_tt, b_un, b_fmti, b_fmts, b_js, b_jsn, b_jsc, b_booli, b_boolb, b_gcons, b_gnil, cxK, true_and, if_true, if_false, Bool.false_eq_true, Bool.not_true, Bool.not_false, exists_eq_left', exists_eq_left]
    refine ⟨y, t2, b2, rfl, hn, h2, fun p H1 x1 g1 => ?_⟩
    refine s_unp g1 rfl ?_
    try simp only [tSeq, tIfS, tAsg, tRet, tRetN, tDrop, tOp, tUn, tC, tCB, tCons, tNil, gName, gSub, gUnpU, tTest, tB, tNext, tAnd, tOr, tNot, tAndV, tOrV, tNotV, tIf, tLst, tTup, tPar, tPar3, tFn, tMkU, tMtU, tFldU, tSetF, tFmtU, tChain, tSl, tPart, L2.start, List.map_cons, List.map_nil, List.length_cons, List.length_nil, Nat.reduceAdd, Nat.reduceSub, List.reduceReplicate, List.cons_append, List.nil_append, e_v0, e_v1, e_v2, e_v3, e_v4, e_vs, e_set0, e_setS, b_2i, b_int, b_intb, b_abs, e_bl, b_if, b_ff, b_tt, b_un, b_fmti, b_fmts, b_js, b_jsn, b_jsc, b_booli, b_boolb, b_gcons, b_gnil, cxK, true_and, if_true, if_false, Bool.false_eq_true, Bool.not_true, Bool.not_false, exists_eq_left', exists_eq_left]
    have ha1 := x1.at ha
    repeat (first | refine s_fld ha1 T.ins.cl T.nT rat_top ?_ | refine s_fld ha1 T.ins.cl T.nB rat_bot ?_ | refine ⟨cmulB (by assumption) (by assumption), ?_⟩ | simp only [e_v0, e_v1, e_v2, e_v3, e_v4, e_vs, e_set0, e_setS, b_2i, b_int, b_intb, b_abs, e_bl, b_if, b_ff, b_tt, b_un, b_fmti, b_fmts, b_js, b_jsn, b_jsc, b_booli, b_boolb, b_gcons, b_gnil, cxK, true_and, if_true, if_false, Bool.false_eq_true, Bool.not_true, Bool.not_false, exists_eq_left', exists_eq_left])
    exact ⟨cfd (Int.mul_ne_zero hb h2) (mul_pow m2 m3), q H1 x1⟩
/-- ratio % number -/
def spMod (C : Addr) : Sp := fun vs H Q _ => ∃ a dx y t1 b1 t2 b2, vs = [.ref a, y] ∧ H a = some (.ins C dx (ratF t1 b1)) ∧ Num C H y t2 b2 ∧ t2 ≠ 0 ∧ b1 ≠ 0 ∧ b2 ≠ 0 ∧ sm t1 ∧ sm b1 ∧ sm t2 ∧ sm b2 ∧
  ∀ a' dx' H', Ext H H' → H' a' = some (.ins C dx' (ratF (lowT (modT t1 b1 t2 b2) (b1 * b2)) (lowB (modT t1 b1 t2 b2) (b1 * b2)))) → Q (.ref a') H'
theorem cmul_w {i j k : Int} (h1 : sm i) (h2 : sm j) (h3 : sm k) (m : Int) : CMulU ((i * j).fdiv m) k := .inr ⟨up_pow (Nat.lt_of_le_of_lt (fdiv_abs _ _) (mul_pow h1 h2)) (by decide), sm_big h3⟩
theorem cmul_w2 {i j k l : Int} (h1 : sm i) (h2 : sm j) (h3 : sm k) (h4 : sm l) (m : Int) : CMulU ((i * j).fdiv m * k) l := .inr ⟨up_pow (mul_pow (Nat.lt_of_le_of_lt (fdiv_abs _ _) (mul_pow h1 h2)) h3) (by decide), sm_big h4⟩
abbrev sMod : Stmt := inClass (topS 13) 11
theorem scMod : FnScope ["self", "other", "top", "bottom", "whole"] ["self", "other"] (defScope sMod) := ⟨rfl, rfl, rfl, by decide +kernel, rfl, by decide +kernel, by decide +kernel⟩
theorem ok_mod {f : Addr} {fd : FuncData} (F : FunS K "__mod__" "Ratio.__mod__" sMod [] f fd) (T : ClsRat K C) (gO : GF P w K mg base 3 "parts_over" (spPartsO C)) (gR : GC P w K mg base 2 "Ratio" C (spInit2 C)) : FnOk P w K mg base (L2.CX P w) 4 f fd ["self", "other"] (spMod C) := by
  refine F.ok scMod (fun vs H Q E h => ?_) (fun cdv A outer s H vs Q E hr h => ?_)
  · obtain ⟨a, dx, y, t1, b1, t2, b2, rfl, _⟩ := h
    rfl
  · obtain ⟨a, dx, y, t1, b1, t2, b2, rfl, ha, hn, h2, hb, hb2, m1, m2, m3, m4, q⟩ := h
    refine ⟨_, (pss_cons (ps_asg (pe_fn gO (hr.mono (by decide)) (passes_call (takes_of rfl rfl rfl rfl) (fun _ _ _ _ h => h)) (pa_cons (pv 1) pa_nil)) (pg_unpU (n := 2) rfl (pgs_cons (pg_name (i := 2) scMod.nd rfl (Or.inl rfl)) (pgs_cons (pg_name (i := 3) scMod.nd rfl (Or.inl rfl)) pgs_nil))))
      (pss_cons (ps_set (i := 4) scMod.nd rfl (Or.inl rfl) (pe_op oFdivN (pe_op oMul (pe_fldU (K := K) (pv 0)) (pv 3)) (pe_op oMul (pe_fldU (K := K) (pv 0)) (pv 2))))
      (pss_one (ps_ret (pe_mk gR (hr.mono (by decide)) (passes_call (takes_of rfl rfl rfl rfl) (fun _ _ _ _ h => h)) (pa_cons (pe_op oSub (pe_op oMul (pe_fldU (K := K) (pv 0)) (pv 3)) (pe_op oMul (pe_op oMul (pv 4) (pv 2)) (pe_fldU (K := K) (pv 0)))) (pa_cons (pe_op oMul (pe_fldU (K := K) (pv 0)) (pv 3)) pa_nil))))))), ?_⟩
    simp only [tSeq, tIfS, tAsg, tRet, tRetN, tDrop, tOp, tUn, tC, tCB, tCons, tNil, gName, gSub, gUnpU, tTest, tB, tNext, tAnd, tOr, tNot, tAndV, tOrV, tNotV, tIf, tLst, tTup, tPar, tPar3, tFn, tMkU, tMtU, tFldU, tSetF, tFmtU, tChain, tSl, tPart, L2.start, List.map_cons, List.map_nil, List.length_cons, List.length_nil, Nat.reduceAdd, Nat.reduceSub, List.reduceReplicate, List.cons_append, List.nil_append, e_v0, e_v1, e_v2, e_v3, e_v4, e_vs, e_set0, e_setS, b_2i, b_int, b_intb, b_abs, e_bl, b_if, b_ff, b_tt, b_un, b_fmti, b_fmts, b_js, b_jsn, b_jsc, b_booli, b_boolb, b_gcons, b_gnil, cxK, true_and, if_true, if_false, Bool.false_eq_true, Bool.not_true, Bool.not_false, exists_eq_left', exists_eq_left]
    refine ⟨y, t2, b2, rfl, hn, h2, fun p H1 x1 g1 => ?_⟩
    refine s_unp g1 rfl ?_
    try simp only [tSeq, tIfS, tAsg, tRet, tRetN, tDrop, tOp, tUn, tC, tCB, tCons, tNil, gName, gSub, gUnpU, tTest, tB, tNext, tAnd, tOr, tNot, tAndV, tOrV, tNotV, tIf, tLst, tTup, tPar, tPar3, tFn, tMkU, tMtU, tFldU, tSetF, tFmtU, tChain, tSl, tPart, L2.start, List.map_cons, List.map_nil, List.length_cons, List.length_nil, Nat.reduceAdd, Nat.reduceSub, List.reduceReplicate, List.cons_append, List.nil_append, e_v0, e_v1, e_v2, e_v3, e_v4, e_vs, e_set0, e_setS, b_2i, b_int, b_intb, b_abs, e_bl, b_if, b_ff, b_tt, b_un, b_fmti, b_fmts, b_js, b_jsn, b_jsc, b_booli, b_boolb, b_gcons, b_gnil, cxK, true_and, if_true, if_false, Bool.false_eq_true, Bool.not_true, Bool.not_false, exists_eq_left', exists_eq_left]
    have ha1 := x1.at ha
    repeat (first | refine s_fld ha1 T.ins.cl T.nT rat_top ?_ | refine s_fld ha1 T.ins.cl T.nB rat_bot ?_ | refine ⟨cmulB (by assumption) (by assumption), ?_⟩ | refine ⟨cfd (Int.mul_ne_zero hb h2) (mul_pow m2 m3), ?_⟩ | refine ⟨cmul_w (by assumption) (by assumption) (by assumption) _, ?_⟩ | refine ⟨cmul_w2 (by assumption) (by assumption) (by assumption) (by assumption) _, ?_⟩ | simp only [e_v0, e_v1, e_v2, e_v3, e_v4, e_vs, e_set0, e_setS, b_2i, b_int, b_intb, b_abs, e_bl, b_if, b_ff, b_tt, b_un, b_fmti, b_fmts, b_js, b_jsn, b_jsc, b_booli, b_boolb, b_gcons, b_gnil, cxK, true_and, if_true, if_false, Bool.false_eq_true, Bool.not_true, Bool.not_false, exists_eq_left', exists_eq_left])
    exact s_mkRat (.inl rfl) (Int.mul_ne_zero hb hb2) (big_mul m2 m4) fun a' dx' H2 n2 g2 x2 => q a' dx' H2 (x1.trans x2) g2
/-- int // ratio -/
def spRfd (C : Addr) : Sp := fun vs H Q _ => ∃ a dx y t1 b1 t2 b2, vs = [.ref a, y] ∧ H a = some (.ins C dx (ratF t1 b1)) ∧ Num C H y t2 b2 ∧ t1 ≠ 0 ∧ b2 ≠ 0 ∧ sm t1 ∧ sm b1 ∧ sm t2 ∧ sm b2 ∧ ∀ H', Ext H H' → Q (.int ((t2 * b1).fdiv (b2 * t1))) H'
abbrev sRfd : Stmt := inClass (topS 13) 12
theorem scRfd : FnScope ["self", "other", "top", "bottom"] ["self", "other"] (defScope sRfd) := ⟨rfl, rfl, rfl, by decide +kernel, rfl, by decide +kernel, by decide +kernel⟩
theorem ok_rfd {f : Addr} {fd : FuncData} (F : FunS K "__rfloordiv__" "Ratio.__rfloordiv__" sRfd [] f fd) (T : ClsRat K C) (gP : GF P w K mg base 2 "parts_of" (spParts C)) : FnOk P w K mg base (L2.CX P w) 4 f fd ["self", "other"] (spRfd C) := by
  refine F.ok scRfd (fun vs H Q E h => ?_) (fun cdv A outer s H vs Q E hr h => ?_)
  · obtain ⟨a, dx, y, t1, b1, t2, b2, rfl, _⟩ := h
    rfl
  · obtain ⟨a, dx, y, t1, b1, t2, b2, rfl, ha, hn, h1, hb2, m1, m2, m3, m4, q⟩ := h
    have hu := hr.units
    refine ⟨_, (pss_cons (ps_asg (pe_fn gP (hr.mono (by decide)) (passes_call (takes_of rfl rfl rfl rfl) (fun _ _ _ _ h => h)) (pa_cons (pv 1) pa_nil)) (pg_unpU (n := 2) rfl (pgs_cons (pg_name (i := 2) scRfd.nd rfl (Or.inl rfl)) (pgs_cons (pg_name (i := 3) scRfd.nd rfl (Or.inl rfl)) pgs_nil))))
      (pss_cons (ps_if (pt_cmpR (oEq hu) (pe_fldU (K := K) (pv 0)) pe_int (nomark _)) (pss_one ps_never) pss_nil)
      (pss_one (ps_ret (pe_op oFdivN (pe_op oMul (pv 2) (pe_fldU (K := K) (pv 0))) (pe_op oMul (pv 3) (pe_fldU (K := K) (pv 0)))))))), ?_⟩
    simp only [tSeq, tIfS, tAsg, tRet, tRetN, tDrop, tOp, tUn, tC, tCB, tCons, tNil, gName, gSub, gUnpU, tTest, tB, tNext, tAnd, tOr, tNot, tAndV, tOrV, tNotV, tIf, tLst, tTup, tPar, tPar3, tFn, tMkU, tMtU, tFldU, tSetF, tFmtU, tChain, tSl, tPart, L2.start, List.map_cons, List.map_nil, List.length_cons, List.length_nil, Nat.reduceAdd, Nat.reduceSub, List.reduceReplicate, List.cons_append, List.nil_append, e_v0, e_v1, e_v2, e_v3, e_v4, e_vs, e_set0, e_setS, b_2i, b_int, b_intb, b_abs, e_bl, b_if, b_ff, b_tt, b_un, b_fmti, b_fmts, b_js, b_jsn, b_jsc, b_booli, b_boolb, b_gcons, b_gnil, cxK, true_and, if_true, if_false, Bool.false_eq_true, Bool.not_true, Bool.not_false, exists_eq_left', exists_eq_left]
    refine ⟨y, t2, b2, rfl, hn, fun p H1 x1 g1 => ?_⟩
    refine s_unp g1 rfl ?_
    try simp only [tSeq, tIfS, tAsg, tRet, tRetN, tDrop, tOp, tUn, tC, tCB, tCons, tNil, gName, gSub, gUnpU, tTest, tB, tNext, tAnd, tOr, tNot, tAndV, tOrV, tNotV, tIf, tLst, tTup, tPar, tPar3, tFn, tMkU, tMtU, tFldU, tSetF, tFmtU, tChain, tSl, tPart, L2.start, List.map_cons, List.map_nil, List.length_cons, List.length_nil, Nat.reduceAdd, Nat.reduceSub, List.reduceReplicate, List.cons_append, List.nil_append, e_v0, e_v1, e_v2, e_v3, e_v4, e_vs, e_set0, e_setS, b_2i, b_int, b_intb, b_abs, e_bl, b_if, b_ff, b_tt, b_un, b_fmti, b_fmts, b_js, b_jsn, b_jsc, b_booli, b_boolb, b_gcons, b_gnil, cxK, true_and, if_true, if_false, Bool.false_eq_true, Bool.not_true, Bool.not_false, exists_eq_left', exists_eq_left]
    have ha1 := x1.at ha
    refine s_fld ha1 T.ins.cl T.nT rat_top ?_
    refine s_eq d_int d_int ?_
    have e : (t1 == 0) = false := by simpa using h1
    simp only [PyData.eqv, e, tSeq, tIfS, tAsg, tRet, tRetN, tDrop, tOp, tUn, tC, tCB, tCons, tNil, gName, gSub, gUnpU, tTest, tB, tNext, tAnd, tOr, tNot, tAndV, tOrV, tNotV, tIf, tLst, tTup, tPar, tPar3, tFn, tMkU, tMtU, tFldU, tSetF, tFmtU, tChain, tSl, tPart, L2.start, List.map_cons, List.map_nil, List.length_cons, List.length_nil, Nat.reduceAdd, Nat.reduceSub, List.reduceReplicate, List.cons_append, List.nil_append, e_v0, e_v1, e_v2, e_v3, e_v4, e_vs, e_set0, e_setS, b_2i, b_int, b_intb, b_abs, e_bl, b_if, b_ff, b_tt, b_un, b_fmti, b_fmts, b_js, b_jsn, b_jsc, b_booli, b_boolb, b_gcons, b_gnil, cxK, true_and, if_true, if_false, Bool.false_eq_true, Bool.not_true, Bool.not_false, exists_eq_left', exists_eq_left]
    repeat (first | refine s_fld ha1 T.ins.cl T.nT rat_top ?_ | refine s_fld ha1 T.ins.cl T.nB rat_bot ?_ | refine ⟨cmulB (by assumption) (by assumption), ?_⟩ | simp only [e_v0, e_v1, e_v2, e_v3, e_v4, e_vs, e_set0, e_setS, b_2i, b_int, b_intb, b_abs, e_bl, b_if, b_ff, b_tt, b_un, b_fmti, b_fmts, b_js, b_jsn, b_jsc, b_booli, b_boolb, b_gcons, b_gnil, cxK, true_and, if_true, if_false, Bool.false_eq_true, Bool.not_true, Bool.not_false, exists_eq_left', exists_eq_left])
    exact ⟨cfd (Int.mul_ne_zero hb2 h1) (mul_pow m4 m1), q H1 x1⟩
/-- int % ratio -/
def spRmod (C : Addr) : Sp := fun vs H Q _ => ∃ a dx y t1 b1 t2 b2, vs = [.ref a, y] ∧ H a = some (.ins C dx (ratF t1 b1)) ∧ Num C H y t2 b2 ∧ t1 ≠ 0 ∧ b1 ≠ 0 ∧ b2 ≠ 0 ∧ sm t1 ∧ sm b1 ∧ sm t2 ∧ sm b2 ∧
  ∀ a' dx' H', Ext H H' → H' a' = some (.ins C dx' (ratF (lowT (modT t2 b2 t1 b1) (b2 * b1)) (lowB (modT t2 b2 t1 b1) (b2 * b1)))) → Q (.ref a') H'
abbrev sRmod : Stmt := inClass (topS 13) 13
theorem scRmod : FnScope ["self", "other", "top", "bottom", "whole"] ["self", "other"] (defScope sRmod) := ⟨rfl, rfl, rfl, by decide +kernel, rfl, by decide +kernel, by decide +kernel⟩
theorem ok_rmod {f : Addr} {fd : FuncData} (F : FunS K "__rmod__" "Ratio.__rmod__" sRmod [] f fd) (T : ClsRat K C) (gP : GF P w K mg base 2 "parts_of" (spParts C)) (gR : GC P w K mg base 2 "Ratio" C (spInit2 C)) : FnOk P w K mg base (L2.CX P w) 4 f fd ["self", "other"] (spRmod C) := by
  refine F.ok scRmod (fun vs H Q E h => ?_) (fun cdv A outer s H vs Q E hr h => ?_)
  · obtain ⟨a, dx, y, t1, b1, t2, b2, rfl, _⟩ := h
    rfl
  · obtain ⟨a, dx, y, t1, b1, t2, b2, rfl, ha, hn, h1, hb, hb2, m1, m2, m3, m4, q⟩ := h
    have hu := hr.units
    refine ⟨_, (pss_cons (ps_asg (pe_fn gP (hr.mono (by decide)) (passes_call (takes_of rfl rfl rfl rfl) (fun _ _ _ _ h => h)) (pa_cons (pv 1) pa_nil)) (pg_unpU (n := 2) rfl (pgs_cons (pg_name (i := 2) scRmod.nd rfl (Or.inl rfl)) (pgs_cons (pg_name (i := 3) scRmod.nd rfl (Or.inl rfl)) pgs_nil))))
      (pss_cons (ps_if (pt_cmpR (oEq hu) (pe_fldU (K := K) (pv 0)) pe_int (nomark _)) (pss_one ps_never) pss_nil)
      (pss_cons (ps_set (i := 4) scRmod.nd rfl (Or.inl rfl) (pe_op oFdivN (pe_op oMul (pv 2) (pe_fldU (K := K) (pv 0))) (pe_op oMul (pv 3) (pe_fldU (K := K) (pv 0)))))
      (pss_one (ps_ret (pe_mk gR (hr.mono (by decide)) (passes_call (takes_of rfl rfl rfl rfl) (fun _ _ _ _ h => h)) (pa_cons (pe_op oSub (pe_op oMul (pv 2) (pe_fldU (K := K) (pv 0))) (pe_op oMul (pe_op oMul (pv 4) (pe_fldU (K := K) (pv 0))) (pv 3))) (pa_cons (pe_op oMul (pv 3) (pe_fldU (K := K) (pv 0))) pa_nil)))))))), ?_⟩
    simp only [tSeq, tIfS, tAsg, tRet, tRetN, tDrop, tOp, tUn, tC, tCB, tCons, tNil, gName, gSub, gUnpU, tTest, tB, tNext, tAnd, tOr, tNot, tAndV, tOrV, tNotV, tIf, tLst, tTup, tPar, tPar3, tFn, tMkU, tMtU, tFldU, tSetF, tFmtU, tChain, tSl, tPart, L2.start, List.map_cons, List.map_nil, List.length_cons, List.length_nil, Nat.reduceAdd, Nat.reduceSub, List.reduceReplicate, List.cons_append, List.nil_append, e_v0, e_v1, e_v2, e_v3, e_v4, e_vs, e_set0, e_setS, b_2i, b_int, b_intb, b_abs, e_bl, b_if, b_ff, b_tt, b_un, b_fmti, b_fmts, b_js, b_jsn, b_jsc, b_booli, b_boolb, b_gcons, b_gnil, cxK, true_and, if_true, if_false, Bool.false_eq_true, Bool.not_true, Bool.not_false, exists_eq_left', exists_eq_left]
    refine ⟨y, t2, b2, rfl, hn, fun p H1 x1 g1 => ?_⟩
    refine s_unp g1 rfl ?_
    try simp only [tSeq, tIfS, tAsg, tRet, tRetN, tDrop, tOp, tUn, tC, tCB, tCons, tNil, gName, gSub, gUnpU, tTest, tB, tNext, tAnd, tOr, tNot, tAndV, tOrV, tNotV, tIf, tLst, tTup, tPar, tPar3, tFn, tMkU, tMtU, tFldU, tSetF, tFmtU, tChain, tSl, tPart, L2.start, List.map_cons, List.map_nil, List.length_cons, List.length_nil, Nat.reduceAdd, Nat.reduceSub, List.reduceReplicate, List.cons_append, List.nil_append, e_v0, e_v1, e_v2, e_v3, e_v4, e_vs, e_set0, e_setS, b_2i, b_int, b_intb, b_abs, e_bl, b_if, b_ff, b_tt, b_un, b_fmti, b_fmts, b_js, b_jsn, b_jsc, b_booli, b_boolb, b_gcons, b_gnil, cxK, true_and, if_true, if_false, Bool.false_eq_true, Bool.not_true, Bool.not_false, exists_eq_left', exists_eq_left]
    have ha1 := x1.at ha
    refine s_fld ha1 T.ins.cl T.nT rat_top ?_
    refine s_eq d_int d_int ?_
    have e : (t1 == 0) = false := by simpa using h1
    simp only [PyData.eqv, e, tSeq, tIfS, tAsg, tRet, tRetN, tDrop, tOp, tUn, tC, tCB, tCons, tNil, gName, gSub, gUnpU, tTest, tB, tNext, tAnd, tOr, tNot, tAndV, tOrV, tNotV, tIf, tLst, tTup, tPar, tPar3, tFn, tMkU, tMtU, tFldU, tSetF, tFmtU, tChain, tSl, tPart, L2.start, List.map_cons, List.map_nil, List.length_cons, List.length_nil, Nat.reduceAdd, Nat.reduceSub, List.reduceReplicate, List.cons_append, List.nil_append, e_v0, e_v1, e_v2, e_v3, e_v4, e_vs, e_set0, e_setS, b_2i, b_int, b_intb, b_abs, e_bl, b_if, b_ff, b_tt, b_un, b_fmti, b_fmts, b_js, b_jsn, b_jsc, b_booli, b_boolb, b_gcons, b_gnil, cxK, true_and, if_true, if_false, Bool.false_eq_true, Bool.not_true, Bool.not_false, exists_eq_left', exists_eq_left]
    repeat (first | refine s_fld ha1 T.ins.cl T.nT rat_top ?_ | refine s_fld ha1 T.ins.cl T.nB rat_bot ?_ | refine ⟨cmulB (by assumption) (by assumption), ?_⟩ | refine ⟨cfd (Int.mul_ne_zero hb2 h1) (mul_pow m4 m1), ?_⟩ | refine ⟨cmul_w (by assumption) (by assumption) (by assumption) _, ?_⟩ | refine ⟨cmul_w2 (by assumption) (by assumption) (by assumption) (by assumption) _, ?_⟩ | simp only [e_v0, e_v1, e_v2, e_v3, e_v4, e_vs, e_set0, e_setS, b_2i, b_int, b_intb, b_abs, e_bl, b_if, b_ff, b_tt, b_un, b_fmti, b_fmts, b_js, b_jsn, b_jsc, b_booli, b_boolb, b_gcons, b_gnil, cxK, true_and, if_true, if_false, Bool.false_eq_true, Bool.not_true, Bool.not_false, exists_eq_left', exists_eq_left])
    exact s_mkRat (.inl rfl) (Int.mul_ne_zero hb2 hb) (big_mul m4 m2) fun a' dx' H2 n2 g2 x2 => q a' dx' H2 (x1.trans x2) g2
end
end Wp

set_option maxHeartbeats 4000000
namespace Wp
open PySem L2 PyProof.Rows
section
variable {P : Program} {w : World} {K : PySem.W.Frag} {mg : Str → Option Value} {base : Heap}
abbrev sDraw : Stmt := topS 18
theorem scDraw : FnScope ["_law_pen_here", "_law_many", "_law_digit", "_law_at", "_law_cell", "_law_great", "_law_mixed"] ["_law_pen_here", "_law_many"] (defScope sDraw) := ⟨rfl, rfl, rfl, by decide +kernel, rfl, by decide +kernel, by decide +kernel⟩
theorem ok_draw {f : Addr} {fd : FuncData} (F : FunS K "_law_draw" "_law_draw" sDraw [] f fd) (G : Glb mg) : FnOk P w K mg base (L2.CX P w) 1 f fd ["_law_pen_here", "_law_many"] spDraw := by
  refine F.ok scDraw (fun vs H Q E h => ?_) (fun cdv A outer s H vs Q E hr h => ?_)
  · obtain ⟨p, many, n, rfl, _⟩ := h
    rfl
  · obtain ⟨p, many, n, rfl, ⟨l, ns, at_, rest, hP⟩, hn, hm1, hm2, k⟩ := h
    have hu := hr.units
    refine ⟨_, (pss_cons (ps_if (pt_cmpR oGt (pe_ix oIx (pv 0) pe_int (fun _ _ => rfl)) pe_int (nomark _)) (pss_cons (ps_set (i := 2) scDraw.nd rfl (Or.inl rfl) (pe_op oMod (pe_callTy cInt (by rfl) G.int boot_int (pa_cons (pe_ix oIx (pv 0) pe_int (fun _ _ => rfl)) pa_nil)) (pv 1)))
      (pss_cons (ps_asg (pe_op oFdiv (pe_callTy cInt (by rfl) G.int boot_int (pa_cons (pe_ix oIx (pv 0) pe_int (fun _ _ => rfl)) pa_nil)) (pv 1)) (pg_sub (pv 0) pe_int oSet))
      (pss_one (ps_ret (pv 2))))) pss_nil)
      (pss_cons (ps_set (i := 3) scDraw.nd rfl (Or.inl rfl) (pe_ix oIx (pv 0) pe_int (fun _ _ => rfl)))
      (pss_cons (ps_asg (pe_op oAdd (pv 3) pe_int) (pg_sub (pv 0) pe_int oSet))
      (pss_cons (ps_set (i := 4) scDraw.nd rfl (Or.inl rfl) (pe_op oAdd (pe_op oMul pe_int (pv 3)) pe_int))
      (pss_cons (ps_if (pt_cmpR (oNe hu) (pe_ix oIx (pv 0) pe_int (fun _ _ => rfl)) (pe_lst pa_nil) (nomark _)) (pss_one (ps_set (i := 4) scDraw.nd rfl (Or.inl rfl) (pe_ix oIx (pe_ix oIx (pv 0) pe_int (fun _ _ => rfl)) (pe_op oMod (pe_callTy cInt (by rfl) G.int boot_int (pa_cons (pv 3) pa_nil)) (pe_callB cLen (by rfl) G.len boot_len (pa_cons (pe_ix oIx (pv 0) pe_int (fun _ _ => rfl)) pa_nil))) (fun _ _ => rfl)))) pss_nil)
      (pss_cons (ps_if (PW.pt (pw_and (pt_cmpR oLt (pv 3) (pe_callB cLen (by rfl) G.len boot_len (pa_cons (pe_ix oIx (pv 0) pe_int (fun _ _ => rfl)) pa_nil)) (nomark _)) (pw_and1 (pt_cmpR oGe (pe_callB cAbs (by rfl) G.abs boot_abs (pa_cons (pv 4) pa_nil)) (pe_op oPow pe_int pe_int) (nomark _))))) (pss_cons (ps_set (i := 5) scDraw.nd rfl (Or.inl rfl) (pe_op oAdd (pe_op oMul pe_int (pe_op oSub (pe_callB cAbs (by rfl) G.abs boot_abs (pa_cons (pv 4) pa_nil)) (pe_op oPow pe_int pe_int))) (pe_callTy cInt (by rfl) G.int boot_int (pa_cons (pe_cmpR oLt (pv 4) pe_int (nomark _)) pa_nil))))
      (pss_cons (ps_asg (pe_op oFdiv (pe_callTy cInt (by rfl) G.int boot_int (pa_cons (pv 5) pa_nil)) (pv 1)) (pg_sub (pv 0) pe_int oSet))
      (pss_one (ps_ret (pe_op oMod (pe_callTy cInt (by rfl) G.int boot_int (pa_cons (pv 5) pa_nil)) (pv 1)))))) pss_nil)
      (pss_cons (ps_set (i := 6) scDraw.nd rfl (Or.inl rfl) (pe_op oMod (pe_callTy cInt (by rfl) G.int boot_int (pa_cons (pe_op oPow (pe_op oAdd (pe_op oAdd (pe_op oMod (pe_callTy cInt (by rfl) G.int boot_int (pa_cons (pv 4) pa_nil)) pe_int) (pe_op oMul pe_int (pv 3))) pe_int) pe_int) pa_nil)) pe_int))
      (pss_cons (ps_set (i := 6) scDraw.nd rfl (Or.inl rfl) (pe_op oMod (pe_callTy cInt (by rfl) G.int boot_int (pa_cons (pe_op oPow (pe_op oAdd (pe_op oAdd (pe_op oMul (pv 6) (pe_op oAdd (pe_op oMul pe_int (pv 3)) pe_int)) (pe_op oMul (pe_op oMul pe_int (pv 3)) (pv 3))) pe_int) pe_int) pa_nil)) pe_int))
      (pss_one (ps_ret (pe_op oMod (pe_callTy cInt (by rfl) G.int boot_int (pa_cons (pe_op oFdiv (pv 6) pe_int) pa_nil)) (pv 1)))))))))))), ?_⟩
    have h1 := hP.hp
    have h2 := hP.hl
    simp only [tSeq, tIfS, tAsg, tRet, tRetN, tDrop, tOp, tUn, tC, tCB, tCons, tNil, gName, gSub, gUnpU, tTest, tB, tNext, tAnd, tOr, tNot, tAndV, tOrV, tNotV, tIf, tLst, tTup, tPar, tPar3, tFn, tMkU, tMtU, tFldU, tSetF, tFmtU, tChain, tSl, tPart, L2.start, List.map_cons, List.map_nil, List.length_cons, List.length_nil, Nat.reduceAdd, Nat.reduceSub, List.reduceReplicate, List.cons_append, List.nil_append, e_v0, e_v1, e_v2, e_v3, e_v4, e_vs, e_set0, e_setS, b_2i, b_int, b_intb, b_abs, e_bl, b_if, b_ff, b_tt, b_un, b_fmti, b_fmts, b_js, b_jsn, b_jsc, b_booli, b_boolb, b_gcons, b_gnil, cxK, true_and, if_true, if_false, Bool.false_eq_true, Bool.not_true, Bool.not_false, exists_eq_left', exists_eq_left]
    have hn0 := hP.at0
    have hn1 := hP.atn
    have hr0 := hP.rest0
    have hlp := pen_ne h1 h2
    refine s_ixL h1 at2 ?_
    simp only [e_v0, e_v1, e_v2, e_v3, e_v4, e_vs, e_set0, e_setS, b_2i, b_int, b_intb, b_abs, e_bl, b_if, b_ff, b_tt, b_un, b_fmti, b_fmts, b_js, b_jsn, b_jsc, b_booli, b_boolb, b_gcons, b_gnil, cxK, true_and, if_true, if_false, Bool.false_eq_true, Bool.not_true, Bool.not_false, exists_eq_left', exists_eq_left]
    refine ite2 (fun hc => ?_) (fun hc => ?_)
    · refine s_ixL h1 at2 ?_
      simp only [e_v0, e_v1, e_v2, e_v3, e_v4, e_vs, e_set0, e_setS, b_2i, b_int, b_intb, b_abs, e_bl, b_if, b_ff, b_tt, b_un, b_fmti, b_fmts, b_js, b_jsn, b_jsc, b_booli, b_boolb, b_gcons, b_gnil, cxK, true_and, if_true, if_false, Bool.false_eq_true, Bool.not_true, Bool.not_false, exists_eq_left', exists_eq_left]
      refine ⟨by omega, ?_⟩
      refine s_ixL h1 at2 ?_
      simp only [e_v0, e_v1, e_v2, e_v3, e_v4, e_vs, e_set0, e_setS, b_2i, b_int, b_intb, b_abs, e_bl, b_if, b_ff, b_tt, b_un, b_fmti, b_fmts, b_js, b_jsn, b_jsc, b_booli, b_boolb, b_gcons, b_gnil, cxK, true_and, if_true, if_false, Bool.false_eq_true, Bool.not_true, Bool.not_false, exists_eq_left', exists_eq_left]
      refine ⟨cfp (by omega) (by omega), ?_⟩
      refine s_setN h1 rfl (fun H1 g1 x1 => ?_)
      exact k _ _ (Int.emod_nonneg _ (by omega)) (Int.emod_lt_of_pos _ (by omega)) x1 ⟨l, ns, at_, rest / many, g1, x1.at h2 hlp, hP.len, hn0, by omega, Int.ediv_nonneg hr0 (by omega)⟩
    · refine s_ixL h1 at1 ?_
      simp only [e_v0, e_v1, e_v2, e_v3, e_v4, e_vs, e_set0, e_setS, b_2i, b_int, b_intb, b_abs, e_bl, b_if, b_ff, b_tt, b_un, b_fmti, b_fmts, b_js, b_jsn, b_jsc, b_booli, b_boolb, b_gcons, b_gnil, cxK, true_and, if_true, if_false, Bool.false_eq_true, Bool.not_true, Bool.not_false, exists_eq_left', exists_eq_left]
      refine s_setN h1 rfl (fun H1 g1 x1 => ?_)
      have g1 : H1 p = some (.lst [.ref l, .int (at_ + 1), .int rest]) := g1
      have g2 := x1.at h2 hlp
      refine ⟨cmulL (by decide) (by decide), ?_⟩
      refine s_ixL g1 at0 ?_
      refine ⟨Nat.zero_le _, fun q hq => ?_⟩
      refine s_ne (d_lst (g_old hq g2) (d_ints ns)) (d_lst upd_at d_nil) ?_
      rw [eqv_nil]
      have g4 : upd H1 q (.lst []) p = some (.lst [.ref l, .int (at_ + 1), .int rest]) := g_old hq g1
      have g5 : upd H1 q (.lst []) l = some (.lst (List.map V.int ns)) := g_old hq g2
      have x12 : ExtBut p H (upd H1 q (.lst [])) := x1.trans (Ext.upd hq).but
      generalize upd H1 q (.lst []) = H2 at g4 g5 x12 ⊢
      simp only [e_v0, e_v1, e_v2, e_v3, e_v4, e_vs, e_set0, e_setS, b_2i, b_int, b_intb, b_abs, e_bl, b_if, b_ff, b_tt, b_un, b_fmti, b_fmts, b_js, b_jsn, b_jsc, b_booli, b_boolb, b_gcons, b_gnil, cxK, true_and, if_true, if_false, Bool.false_eq_true, Bool.not_true, Bool.not_false, exists_eq_left', exists_eq_left]
      by_cases he : ns = []
      · subst he
        simp only [List.isEmpty_nil, Bool.not_true, e_v0, e_v1, e_v2, e_v3, e_v4, e_vs, e_set0, e_setS, b_2i, b_int, b_intb, b_abs, e_bl, b_if, b_ff, b_tt, b_un, b_fmti, b_fmts, b_js, b_jsn, b_jsc, b_booli, b_boolb, b_gcons, b_gnil, cxK, true_and, if_true, if_false, Bool.false_eq_true, Bool.not_true, Bool.not_false, exists_eq_left', exists_eq_left]
        repeat' (first
          | refine s_ixL (by assumption) (by (first | exact at0 | exact at1 | exact at2 | assumption)) ?_
          | refine s_set (by assumption) (by rfl) ?_
          | with_reducible refine s_lenL (by assumption) ?_
          | (with_reducible refine ⟨by (first | decide | omega | assumption | exact cfp (by omega) (by omega) | exact cmulL (by omega) (by omega) | exact cmulR (by omega) (by omega) | exact cpow (by omega) (by omega) (by decide) (by decide)), ?_⟩)
          | (with_reducible refine ⟨cpow2 (mix_bound (by omega) (by omega) (by omega) (by omega) (by decide) (by decide) (by decide) (by decide) (by decide) (by decide)) (by decide) (by decide), ?_⟩)
          | (simp only [e_v0, e_v1, e_v2, e_v3, e_v4, e_vs, e_set0, e_setS, b_2i, b_int, b_intb, b_abs, e_bl, b_if, b_ff, b_tt, b_un, b_fmti, b_fmts, b_js, b_jsn, b_jsc, b_booli, b_boolb, b_gcons, b_gnil, cxK, true_and, if_true, if_false, Bool.false_eq_true, Bool.not_true, Bool.not_false, exists_eq_left', exists_eq_left])
          | (with_reducible refine ite2 (fun hc => ?_) (fun hc => ?_))
          | (with_reducible intro q hq))
        all_goals try simp only [Int.reduceToNat, Int.reducePow] at hc ⊢
        all_goals first
          | exact k _ _ (Int.emod_nonneg _ (by omega)) (Int.emod_lt_of_pos _ (by omega)) x12 ⟨l, _, at_ + 1, rest, g4, g5, hP.len, by omega, by omega, hr0⟩
          | exact k _ _ (Int.emod_nonneg _ (by omega)) (Int.emod_lt_of_pos _ (by omega)) (ExtBut.upd x12) ⟨l, _, at_ + 1, _, upd_at, g_oth hlp g5, hP.len, by omega, by omega, Int.ediv_nonneg (great_nn (by assumption)) (by omega)⟩
      · have hl0 : 0 < ((List.map V.int ns).length : Int) := by
          rw [List.length_map]
          have := List.length_pos_iff.mpr he
          omega
        obtain ⟨c, hcell⟩ := at_ints (l := ns) (i := at_ % ((List.map V.int ns).length : Int)) (Int.emod_nonneg _ (by omega)) (by rw [← List.length_map (f := V.int)]; exact Int.emod_lt_of_pos _ hl0)
        have hie : ns.isEmpty = false := by cases ns with
          | nil => exact absurd rfl he
          | cons a r => rfl
        simp only [hie, Bool.not_false, e_v0, e_v1, e_v2, e_v3, e_v4, e_vs, e_set0, e_setS, b_2i, b_int, b_intb, b_abs, e_bl, b_if, b_ff, b_tt, b_un, b_fmti, b_fmts, b_js, b_jsn, b_jsc, b_booli, b_boolb, b_gcons, b_gnil, cxK, true_and, if_true, if_false, Bool.false_eq_true, Bool.not_true, Bool.not_false, exists_eq_left', exists_eq_left]
        repeat' (first
          | refine s_ixL (by assumption) (by (first | exact at0 | exact at1 | exact at2 | assumption)) ?_
          | refine s_set (by assumption) (by rfl) ?_
          | with_reducible refine s_lenL (by assumption) ?_
          | (with_reducible refine ⟨by (first | decide | omega | assumption | exact cfp (by omega) (by omega) | exact cmulL (by omega) (by omega) | exact cmulR (by omega) (by omega) | exact cpow (by omega) (by omega) (by decide) (by decide)), ?_⟩)
          | (with_reducible refine ⟨cpow2 (mix_bound (by omega) (by omega) (by omega) (by omega) (by decide) (by decide) (by decide) (by decide) (by decide) (by decide)) (by decide) (by decide), ?_⟩)
          | (simp only [e_v0, e_v1, e_v2, e_v3, e_v4, e_vs, e_set0, e_setS, b_2i, b_int, b_intb, b_abs, e_bl, b_if, b_ff, b_tt, b_un, b_fmti, b_fmts, b_js, b_jsn, b_jsc, b_booli, b_boolb, b_gcons, b_gnil, cxK, true_and, if_true, if_false, Bool.false_eq_true, Bool.not_true, Bool.not_false, exists_eq_left', exists_eq_left])
          | (with_reducible refine ite2 (fun hc => ?_) (fun hc => ?_))
          | (with_reducible intro q hq))
        all_goals try simp only [Int.reduceToNat, Int.reducePow] at hc ⊢
        all_goals first
          | exact k _ _ (Int.emod_nonneg _ (by omega)) (Int.emod_lt_of_pos _ (by omega)) x12 ⟨l, _, at_ + 1, rest, g4, g5, hP.len, by omega, by omega, hr0⟩
          | exact k _ _ (Int.emod_nonneg _ (by omega)) (Int.emod_lt_of_pos _ (by omega)) (ExtBut.upd x12) ⟨l, _, at_ + 1, _, upd_at, g_oth hlp g5, hP.len, by omega, by omega, Int.ediv_nonneg (great_nn (by assumption)) (by omega)⟩
end
end Wp

set_option maxHeartbeats 4000000
namespace Wp
open PySem PySem.W L2 PyProof.Rows
section
variable {P : Program} {w : World} {K : PySem.W.Frag} {mg : Str → Option Value} {base : Heap} {C : Addr}
/-! ### the pen -/
def spPen (K : Frag) : Sp := fun vs H Q _ => ∃ a ns, vs = [.ref a] ∧ SqL K H a (List.map V.int ns) ∧ ns.length ≤ 63 ∧ ∀ p H', H p = none → Ext H H' → PenX H' p 0 → Q (.ref p) H'
abbrev sPen : Stmt := topS 17
theorem scPen : FnScope ["_law_script"] ["_law_script"] (defScope sPen) := ⟨rfl, rfl, rfl, by decide +kernel, rfl, by decide +kernel, by decide +kernel⟩
theorem ok_pen {f : Addr} {fd : FuncData} (F : FunS K "_law_pen" "_law_pen" sPen [] f fd) (G : Glb mg) : FnOk P w K mg base (L2.CX P w) 1 f fd ["_law_script"] (spPen K) := by
  refine F.ok scPen (fun vs H Q E h => ?_) (fun cdv A outer s H vs Q E hr h => ?_)
  · obtain ⟨a, ns, rfl, _⟩ := h
    rfl
  · obtain ⟨a, ns, rfl, hs, hl, q⟩ := h
    refine ⟨_, (pss_one (ps_ret (pe_lst (pa_cons (pe_callTy call_list_of (by rfl) G.list boot_list (pa_cons (pe_slice sl_list (pv 0) po_none (po_some pe_int)) pa_nil)) (pa_cons pe_int (pa_cons pe_int pa_nil)))))), ?_⟩
    simp only [tSeq, tIfS, tAsg, tRet, tRetN, tDrop, tOp, tUn, tC, tCB, tCons, tNil, gName, gSub, gUnpU, tTest, tB, tNext, tAnd, tOr, tNot, tAndV, tOrV, tNotV, tIf, tLst, tTup, tPar, tPar3, tFn, tMkU, tMtU, tFldU, tSetF, tFmtU, tChain, tSl, tPart, L2.start, List.map_cons, List.map_nil, List.length_cons, List.length_nil, Nat.reduceAdd, Nat.reduceSub, List.reduceReplicate, List.cons_append, List.nil_append, e_v0, e_v1, e_v2, e_v3, e_v4, e_vs, e_set0, e_setS, b_2i, b_int, b_intb, b_abs, e_bl, b_if, b_ff, b_tt, b_un, b_fmti, b_fmts, b_js, b_jsn, b_jsc, b_booli, b_boolb, b_gcons, b_gnil, cxK, true_and, if_true, if_false, Bool.false_eq_true, Bool.not_true, Bool.not_false, exists_eq_left', exists_eq_left]
    refine ⟨63, rfl, a, _, rfl, hs, fun p1 n1 => ?_⟩
    refine ⟨p1, _, rfl, .inl (SqL.of upd_at), fun l nl => ?_⟩
    refine ⟨by show 3 ≤ sizeLine; decide, fun p np => ?_⟩
    have e : cutV (List.map V.int ns) none (some 63) = List.map V.int ns := by
      unfold cutV HT.sIx
      simp
      exact List.take_of_length_le (by rw [List.length_map]; omega)
    rw [e] at nl np ⊢
    have nH : H p = none := by
      cases h : H p with
      | none => rfl
      | some o =>
        have := g_old nl (o := .lst (List.map V.int ns)) (g_old n1 (o := .lst (List.map V.int ns)) h)
        rw [this] at np; cases np
    exact q p _ nH ((Ext.upd n1).trans ((Ext.upd nl).trans (Ext.upd np))) ⟨l, ns, 0, 0, upd_at, g_old np upd_at, hl, Int.le_refl 0, Int.le_refl 0, Int.le_refl 0⟩
def spPick : Sp := fun vs H Q _ => ∃ p l xs n, vs = [.ref p, .ref l] ∧ PenX H p n ∧ n ≤ 1000000 ∧ H l = some (.lst xs) ∧ l ≠ p ∧ 1 ≤ xs.length ∧ xs.length < 1000 ∧ ∀ v H', v ∈ xs → ExtBut p H H' → PenX H' p (n + 1) → Q v H'
abbrev sPick : Stmt := topS 19
theorem scPick : FnScope ["_law_pen_here", "_law_some"] ["_law_pen_here", "_law_some"] (defScope sPick) := ⟨rfl, rfl, rfl, by decide +kernel, rfl, by decide +kernel, by decide +kernel⟩
theorem ok_pick {f : Addr} {fd : FuncData} (F : FunS K "_law_pick" "_law_pick" sPick [] f fd) (G : Glb mg) (gD : GF P w K mg base 1 "_law_draw" spDraw) : FnOk P w K mg base (L2.CX P w) 2 f fd ["_law_pen_here", "_law_some"] spPick := by
  refine F.ok scPick (fun vs H Q E h => ?_) (fun cdv A outer s H vs Q E hr h => ?_)
  · obtain ⟨p, l, xs, n, rfl, _⟩ := h
    rfl
  · obtain ⟨p, l, xs, n, rfl, hP, hn, hl, hlp, h1, h2, q⟩ := h
    refine ⟨_, (pss_one (ps_ret (pe_ix oIx (pv 1) (pe_fn gD (hr.mono (by decide)) (passes_call (takes_of rfl rfl rfl rfl) (fun _ _ _ _ h => h)) (pa_cons (pv 0) (pa_cons (pe_callB cLen (by rfl) G.len boot_len (pa_cons (pv 1) pa_nil)) pa_nil))) (fun _ _ => rfl)))), ?_⟩
    simp only [tSeq, tIfS, tAsg, tRet, tRetN, tDrop, tOp, tUn, tC, tCB, tCons, tNil, gName, gSub, gUnpU, tTest, tB, tNext, tAnd, tOr, tNot, tAndV, tOrV, tNotV, tIf, tLst, tTup, tPar, tPar3, tFn, tMkU, tMtU, tFldU, tSetF, tFmtU, tChain, tSl, tPart, L2.start, List.map_cons, List.map_nil, List.length_cons, List.length_nil, Nat.reduceAdd, Nat.reduceSub, List.reduceReplicate, List.cons_append, List.nil_append, e_v0, e_v1, e_v2, e_v3, e_v4, e_vs, e_set0, e_setS, b_2i, b_int, b_intb, b_abs, e_bl, b_if, b_ff, b_tt, b_un, b_fmti, b_fmts, b_js, b_jsn, b_jsc, b_booli, b_boolb, b_gcons, b_gnil, cxK, true_and, if_true, if_false, Bool.false_eq_true, Bool.not_true, Bool.not_false, exists_eq_left', exists_eq_left]
    refine s_lenL hl ?_
    refine ⟨p, _, n, rfl, hP, hn, by omega, by omega, fun r H1 r0 r1 x1 p1 => ?_⟩
    have hr' : r.toNat < xs.length := by omega
    refine s_ixL (x1.at hl hlp) (atN r0 (List.getElem?_eq_getElem hr')) ?_
    exact q _ _ (List.getElem_mem hr') x1 p1
def num (i : Int) : Prop := i.natAbs ≤ 10 ^ 58 + 7
theorem num_sm {i : Int} (h : num i) : sm i := Nat.lt_of_le_of_lt h (by decide +kernel)
def spNumber : Sp := fun vs H Q _ => ∃ p n, vs = [.ref p] ∧ PenX H p n ∧ n ≤ 999999 ∧ ∀ i H', num i → ExtBut p H H' → PenX H' p (n + 2) → Q (.int i) H'
abbrev sNumber : Stmt := topS 22
theorem scNumber : FnScope ["_law_pen_here"] ["_law_pen_here"] (defScope sNumber) := ⟨rfl, rfl, rfl, by decide +kernel, rfl, by decide +kernel, by decide +kernel⟩
theorem ok_number {f : Addr} {fd : FuncData} (F : FunS K "_law_number" "_law_number" sNumber [] f fd) (gD : GF P w K mg base 1 "_law_draw" spDraw) (gK : GF P w K mg base 2 "_law_pick" spPick) : FnOk P w K mg base (L2.CX P w) 3 f fd ["_law_pen_here"] spNumber := by
  refine F.ok scNumber (fun vs H Q E h => ?_) (fun cdv A outer s H vs Q E hr h => ?_)
  · obtain ⟨p, n, rfl, _⟩ := h
    rfl
  · obtain ⟨p, n, rfl, hP, hn, q⟩ := h
    refine ⟨_, (pss_one (ps_ret (pe_fn gK (hr.mono (by decide)) (passes_call (takes_of rfl rfl rfl rfl) (fun _ _ _ _ h => h)) (pa_cons (pv 0) (pa_cons (pe_lst (pa_cons pe_int (pa_cons pe_int (pa_cons (pe_un un_neg pe_int) (pa_cons pe_int (pa_cons pe_int (pa_cons pe_int (pa_cons (pe_un un_neg pe_int) (pa_cons (pe_op oPow pe_int pe_int) (pa_cons (pe_op oAdd (pe_op oPow pe_int pe_int) pe_int) (pa_cons (pe_op oSub (pe_fn gD (hr.mono (by decide)) (passes_call (takes_of rfl rfl rfl rfl) (fun _ _ _ _ h => h)) (pa_cons (pv 0) (pa_cons pe_int pa_nil))) pe_int) pa_nil))))))))))) pa_nil))))), ?_⟩
    simp only [tSeq, tIfS, tAsg, tRet, tRetN, tDrop, tOp, tUn, tC, tCB, tCons, tNil, gName, gSub, gUnpU, tTest, tB, tNext, tAnd, tOr, tNot, tAndV, tOrV, tNotV, tIf, tLst, tTup, tPar, tPar3, tFn, tMkU, tMtU, tFldU, tSetF, tFmtU, tChain, tSl, tPart, L2.start, List.map_cons, List.map_nil, List.length_cons, List.length_nil, Nat.reduceAdd, Nat.reduceSub, List.reduceReplicate, List.cons_append, List.nil_append, e_v0, e_v1, e_v2, e_v3, e_v4, e_vs, e_set0, e_setS, b_2i, b_int, b_intb, b_abs, e_bl, b_if, b_ff, b_tt, b_un, b_fmti, b_fmts, b_js, b_jsn, b_jsc, b_booli, b_boolb, b_gcons, b_gnil, cxK, true_and, if_true, if_false, Bool.false_eq_true, Bool.not_true, Bool.not_false, exists_eq_left', exists_eq_left]
    refine ⟨by (first | decide | omega | assumption | exact cfp (by omega) (by omega) | exact cmulL (by omega) (by omega) | exact cmulR (by omega) (by omega) | exact cpow (by omega) (by omega) (by decide) (by decide)), by (first | decide | omega | assumption | exact cfp (by omega) (by omega) | exact cmulL (by omega) (by omega) | exact cmulR (by omega) (by omega) | exact cpow (by omega) (by omega) (by decide) (by decide)), ?_⟩
    refine ⟨p, 60, n, rfl, hP, by omega, by omega, by omega, fun r H1 r0 r1 x1 p1 => ?_⟩
    simp only [e_v0, e_v1, e_v2, e_v3, e_v4, e_vs, e_set0, e_setS, b_2i, b_int, b_intb, b_abs, e_bl, b_if, b_ff, b_tt, b_un, b_fmti, b_fmts, b_js, b_jsn, b_jsc, b_booli, b_boolb, b_gcons, b_gnil, cxK, true_and, if_true, if_false, Bool.false_eq_true, Bool.not_true, Bool.not_false, exists_eq_left', exists_eq_left]
    refine ⟨by decide, fun l nl => ?_⟩
    refine ⟨p, l, _, n + 1, rfl, p1.ext (Ext.upd nl) (Int.le_refl _), by omega, upd_at, ?_, by show 1 ≤ 10; decide, by show 10 < 1000; decide, fun v H2 hv x2 p3 => ?_⟩
    · obtain ⟨l', ns, a', r', hp⟩ := p1
      intro z
      rw [z, hp.hp] at nl
      cases nl
    · have hv2 : ∃ i, v = .int i ∧ num i := by
        simp only [List.mem_cons, List.not_mem_nil, or_false] at hv
        unfold num
        rcases hv with rfl | rfl | rfl | rfl | rfl | rfl | rfl | rfl | rfl | rfl
        all_goals first | exact ⟨_, rfl, by decide +kernel⟩ | exact ⟨_, rfl, by omega⟩
      obtain ⟨i, rfl, hi⟩ := hv2
      exact q i H2 hi (x1.trans ((Ext.upd nl).but.trans x2)) (by have e : n + 1 + 1 = n + 2 := by omega
                                                                 rw [← e]; exact p3)
def spPair : Sp := fun vs H Q _ => ∃ p n, vs = [.ref p] ∧ PenX H p n ∧ n ≤ 999990 ∧ ∀ i j t H', num i → num j → j ≠ 0 → t ≠ p → H t = none → ExtBut p H H' → H' t = some (.tup [.int i, .int j]) → PenX H' p (n + 4) → Q (.ref t) H'
abbrev sPair : Stmt := topS 23
theorem scPair : FnScope ["_law_pen_here", "_law_bottom"] ["_law_pen_here"] (defScope sPair) := ⟨rfl, rfl, rfl, by decide +kernel, rfl, by decide +kernel, by decide +kernel⟩
theorem ok_pair {f : Addr} {fd : FuncData} (F : FunS K "_law_pair" "_law_pair" sPair [] f fd) (gN : GF P w K mg base 3 "_law_number" spNumber) : FnOk P w K mg base (L2.CX P w) 4 f fd ["_law_pen_here"] spPair := by
  refine F.ok scPair (fun vs H Q E h => ?_) (fun cdv A outer s H vs Q E hr h => ?_)
  · obtain ⟨p, n, rfl, _⟩ := h
    rfl
  · obtain ⟨p, n, rfl, hP, hn, q⟩ := h
    have hu := hr.units
    refine ⟨_, (pss_cons (ps_set (i := 1) scPair.nd rfl (Or.inl rfl) (pe_fn gN (hr.mono (by decide)) (passes_call (takes_of rfl rfl rfl rfl) (fun _ _ _ _ h => h)) (pa_cons (pv 0) pa_nil)))
      (pss_one (ps_ret (pe_tup (pa_cons (pe_fn gN (hr.mono (by decide)) (passes_call (takes_of rfl rfl rfl rfl) (fun _ _ _ _ h => h)) (pa_cons (pv 0) pa_nil)) (pa_cons (pe_ifExp (pt_cmpR (oNe hu) (pv 1) pe_int (nomark _)) (pv 1) pe_int) pa_nil)))))), ?_⟩
    simp only [tSeq, tIfS, tAsg, tRet, tRetN, tDrop, tOp, tUn, tC, tCB, tCons, tNil, gName, gSub, gUnpU, tTest, tB, tNext, tAnd, tOr, tNot, tAndV, tOrV, tNotV, tIf, tLst, tTup, tPar, tPar3, tFn, tMkU, tMtU, tFldU, tSetF, tFmtU, tChain, tSl, tPart, L2.start, List.map_cons, List.map_nil, List.length_cons, List.length_nil, Nat.reduceAdd, Nat.reduceSub, List.reduceReplicate, List.cons_append, List.nil_append, e_v0, e_v1, e_v2, e_v3, e_v4, e_vs, e_set0, e_setS, b_2i, b_int, b_intb, b_abs, e_bl, b_if, b_ff, b_tt, b_un, b_fmti, b_fmts, b_js, b_jsn, b_jsc, b_booli, b_boolb, b_gcons, b_gnil, cxK, true_and, if_true, if_false, Bool.false_eq_true, Bool.not_true, Bool.not_false, exists_eq_left', exists_eq_left]
    refine ⟨p, n, rfl, hP, by omega, fun b H1 nb x1 p1 => ?_⟩
    simp only [e_v0, e_v1, e_v2, e_v3, e_v4, e_vs, e_set0, e_setS, b_2i, b_int, b_intb, b_abs, e_bl, b_if, b_ff, b_tt, b_un, b_fmti, b_fmts, b_js, b_jsn, b_jsc, b_booli, b_boolb, b_gcons, b_gnil, cxK, true_and, if_true, if_false, Bool.false_eq_true, Bool.not_true, Bool.not_false, exists_eq_left', exists_eq_left]
    refine ⟨p, n + 2, rfl, p1, by omega, fun i H2 ni x2 p2 => ?_⟩
    refine s_ne d_int d_int ?_
    simp only [e_v0, e_v1, e_v2, e_v3, e_v4, e_vs, e_set0, e_setS, b_2i, b_int, b_intb, b_abs, e_bl, b_if, b_ff, b_tt, b_un, b_fmti, b_fmts, b_js, b_jsn, b_jsc, b_booli, b_boolb, b_gcons, b_gnil, cxK, true_and, if_true, if_false, Bool.false_eq_true, Bool.not_true, Bool.not_false, exists_eq_left', exists_eq_left, PyData.eqv]
    have fin : ∀ j : Int, num j → j ≠ 0 → ∀ t, H2 t = none → Q (.ref t) (upd H2 t (.tup [.int i, .int j])) := fun j nj hj t nt => by
      obtain ⟨l', ns, a', r', hp⟩ := id p2
      have htp : t ≠ p := fun z => by rw [z, hp.hp] at nt; cases nt
      refine q i j t _ ni nj hj htp ?_ (x1.trans (x2.trans (Ext.upd nt).but)) upd_at (p2.ext (Ext.upd nt) (by omega))
      cases h : H t with
      | none => rfl
      | some o =>
        have := (x1.trans x2).at h htp
        rw [this] at nt; cases nt
    by_cases hb : b = 0
    · subst hb
      simp only [beq_self_eq_true, e_v0, e_v1, e_v2, e_v3, e_v4, e_vs, e_set0, e_setS, b_2i, b_int, b_intb, b_abs, e_bl, b_if, b_ff, b_tt, b_un, b_fmti, b_fmts, b_js, b_jsn, b_jsc, b_booli, b_boolb, b_gcons, b_gnil, cxK, true_and, if_true, if_false, Bool.false_eq_true, Bool.not_true, Bool.not_false, exists_eq_left', exists_eq_left]
      exact ⟨by decide, fin 4 (by unfold num; decide +kernel) (by decide)⟩
    · have e : (b == 0) = false := by simpa using hb
      simp only [e, e_v0, e_v1, e_v2, e_v3, e_v4, e_vs, e_set0, e_setS, b_2i, b_int, b_intb, b_abs, e_bl, b_if, b_ff, b_tt, b_un, b_fmti, b_fmts, b_js, b_jsn, b_jsc, b_booli, b_boolb, b_gcons, b_gnil, cxK, true_and, if_true, if_false, Bool.false_eq_true, Bool.not_true, Bool.not_false, exists_eq_left', exists_eq_left]
      exact ⟨by decide, fin b nb hb⟩
/-! ### lowest terms by the law's own reckoning -/
def spShare : Sp := fun vs H Q _ => ∃ t b, vs = [.int t, .int b] ∧ Q (.int (gcdI t b)) H
abbrev sShare : Stmt := topS 20
theorem scShare : FnScope ["_law_one", "_law_other", "_law_first", "_law_last"] ["_law_one", "_law_other"] (defScope sShare) := ⟨rfl, rfl, rfl, by decide +kernel, rfl, by decide +kernel, by decide +kernel⟩
theorem ok_share {f : Addr} {fd : FuncData} (F : FunS K "_law_share" "_law_share" sShare [] f fd) (G : Glb mg) : FnOk P w K mg base (L2.CX P w) 1 f fd ["_law_one", "_law_other"] spShare := by
  refine F.ok scShare (fun vs H Q E h => ?_) (fun cdv A outer s H vs Q E hr h => ?_)
  · obtain ⟨t, b, rfl, _⟩ := h
    rfl
  · obtain ⟨t, b, rfl, q⟩ := h
    refine ⟨_, (pss_cons (ps_par (i := 2) (j := 3) rfl scShare.nd rfl rfl (by decide) rfl rfl (pa_cons (pe_callB cAbs (by rfl) G.abs boot_abs (pa_cons (pv 0) pa_nil)) (pa_cons (pe_callB cAbs (by rfl) G.abs boot_abs (pa_cons (pv 1) pa_nil)) pa_nil)) (by rfl))
      (pss_cons (ps_while (passes_of rfl) (pt_cmpR oGt (pv 3) pe_int (nomark _)) (pss_one (ps_par (i := 2) (j := 3) rfl scShare.nd rfl rfl (by decide) rfl rfl (pa_cons (pv 3) (pa_cons (pe_op oMod (pe_callTy cInt (by rfl) G.int boot_int (pa_cons (pv 2) pa_nil)) (pv 3)) pa_nil)) (by rfl))))
      (pss_one (ps_ret (pv 2))))), ?_⟩
    simp only [tSeq, tIfS, tAsg, tRet, tRetN, tDrop, tOp, tUn, tC, tCB, tCons, tNil, gName, gSub, gUnpU, tTest, tB, tNext, tAnd, tOr, tNot, tAndV, tOrV, tNotV, tIf, tLst, tTup, tPar, tPar3, tFn, tMkU, tMtU, tFldU, tSetF, tFmtU, tChain, tSl, tPart, L2.start, List.map_cons, List.map_nil, List.length_cons, List.length_nil, Nat.reduceAdd, Nat.reduceSub, List.reduceReplicate, List.cons_append, List.nil_append, e_v0, e_v1, e_v2, e_v3, e_v4, e_vs, e_set0, e_setS, b_2i, b_int, b_intb, b_abs, e_bl, b_if, b_ff, b_tt, b_un, b_fmti, b_fmts, b_js, b_jsn, b_jsc, b_booli, b_boolb, b_gcons, b_gnil, cxK, true_and, if_true, if_false, Bool.false_eq_true, Bool.not_true, Bool.not_false, exists_eq_left', exists_eq_left]
    have a1 : (if t < 0 then -t else t) = ((t.natAbs : Nat) : Int) := by split <;> omega
    have a2 : (if b < 0 then -b else b) = ((b.natAbs : Nat) : Int) := by split <;> omega
    rw [a1, a2]
    refine ⟨_, _, rfl, while_by (fun σ H' => H' = H ∧ ∃ x y : Nat, σ = [some (.int t), some (.int b), some (.int x), some (.int y)] ∧ Nat.gcd x y = Nat.gcd t.natAbs b.natAbs) (fun σ _ => match σ with | [_, _, _, some (.int y)] => y.toNat | _ => 0) ⟨rfl, _, _, rfl, rfl⟩ ?_ ?_⟩
    · rintro σ H' ⟨rfl, x, y, rfl, hg⟩
      simp only [tSeq, tIfS, tAsg, tRet, tRetN, tDrop, tOp, tUn, tC, tCB, tCons, tNil, gName, gSub, gUnpU, tTest, tB, tNext, tAnd, tOr, tNot, tAndV, tOrV, tNotV, tIf, tLst, tTup, tPar, tPar3, tFn, tMkU, tMtU, tFldU, tSetF, tFmtU, tChain, tSl, tPart, L2.start, List.map_cons, List.map_nil, List.length_cons, List.length_nil, Nat.reduceAdd, Nat.reduceSub, List.reduceReplicate, List.cons_append, List.nil_append, e_v0, e_v1, e_v2, e_v3, e_v4, e_vs, e_set0, e_setS, b_2i, b_int, b_intb, b_abs, e_bl, b_if, b_ff, b_tt, b_un, b_fmti, b_fmts, b_js, b_jsn, b_jsc, b_booli, b_boolb, b_gcons, b_gnil, cxK, true_and, if_true, if_false, Bool.false_eq_true, Bool.not_true, Bool.not_false, exists_eq_left', exists_eq_left]
      refine ite2 (fun hc => ?_) (fun hc => ?_)
      · refine ⟨hc, _, _, rfl, ⟨y, x % y, rfl, ?_⟩, ?_⟩
        · rw [← hg, Nat.gcd_comm y, ← Nat.gcd_rec, Nat.gcd_comm]
        · show (((x % y : Nat) : Int)).toNat < ((y : Nat) : Int).toNat
          have : x % y < y := Nat.mod_lt _ (by omega)
          omega
      · have hy : y = 0 := by omega
        subst hy
        rw [Nat.gcd_zero_right] at hg
        unfold gcdI at q
        rw [← hg] at q
        exact q
    · intro σ H' R R' m h
      obtain ⟨v, e, h⟩ := h
      refine ⟨v, e, ?_⟩
      cases v <;> first | exact h.elim | (obtain ⟨k, hk, r⟩ := h; exact ⟨k, hk, m _ _ r⟩)
def spLowest : Sp := fun vs H Q _ => ∃ t b, vs = [.int t, .int b] ∧ b ≠ 0 ∧ big b ∧ ∀ p H', H p = none → Ext H H' → H' p = some (.tup [.int (lowT t b), .int (lowB t b)]) → Q (.ref p) H'
abbrev sLowest : Stmt := topS 21
theorem scLowest : FnScope ["_law_top", "_law_bottom", "_law_part"] ["_law_top", "_law_bottom"] (defScope sLowest) := ⟨rfl, rfl, rfl, by decide +kernel, rfl, by decide +kernel, by decide +kernel⟩
theorem ok_lowest {f : Addr} {fd : FuncData} (F : FunS K "_law_lowest" "_law_lowest" sLowest [] f fd) (gS : GF P w K mg base 1 "_law_share" spShare) : FnOk P w K mg base (L2.CX P w) 2 f fd ["_law_top", "_law_bottom"] spLowest := by
  refine F.ok scLowest (fun vs H Q E h => ?_) (fun cdv A outer s H vs Q E hr h => ?_)
  · obtain ⟨t, b, rfl, _⟩ := h
    rfl
  · obtain ⟨t, b, rfl, hb, hbb, q⟩ := h
    refine ⟨_, (pss_cons (ps_set (i := 2) scLowest.nd rfl (Or.inl rfl) (pe_ifExp (pt_cmpR oGt (pv 1) pe_int (nomark _)) (pe_fn gS (hr.mono (by decide)) (passes_call (takes_of rfl rfl rfl rfl) (fun _ _ _ _ h => h)) (pa_cons (pv 0) (pa_cons (pv 1) pa_nil))) (pe_op oSub pe_int (pe_fn gS (hr.mono (by decide)) (passes_call (takes_of rfl rfl rfl rfl) (fun _ _ _ _ h => h)) (pa_cons (pv 0) (pa_cons (pv 1) pa_nil))))))
      (pss_one (ps_ret (pe_tup (pa_cons (pe_op oFdivN (pv 0) (pv 2)) (pa_cons (pe_op oFdivN (pv 1) (pv 2)) pa_nil)))))), ?_⟩
    simp only [tSeq, tIfS, tAsg, tRet, tRetN, tDrop, tOp, tUn, tC, tCB, tCons, tNil, gName, gSub, gUnpU, tTest, tB, tNext, tAnd, tOr, tNot, tAndV, tOrV, tNotV, tIf, tLst, tTup, tPar, tPar3, tFn, tMkU, tMtU, tFldU, tSetF, tFmtU, tChain, tSl, tPart, L2.start, List.map_cons, List.map_nil, List.length_cons, List.length_nil, Nat.reduceAdd, Nat.reduceSub, List.reduceReplicate, List.cons_append, List.nil_append, e_v0, e_v1, e_v2, e_v3, e_v4, e_vs, e_set0, e_setS, b_2i, b_int, b_intb, b_abs, e_bl, b_if, b_ff, b_tt, b_un, b_fmti, b_fmts, b_js, b_jsn, b_jsc, b_booli, b_boolb, b_gcons, b_gnil, cxK, true_and, if_true, if_false, Bool.false_eq_true, Bool.not_true, Bool.not_false, exists_eq_left', exists_eq_left]
    have hp : partI t b ≠ 0 := partI_ne hb
    have hc : ∀ i : Int, CFd i (partI t b) := fun i => ⟨hp, Nat.lt_of_le_of_lt (Nat.le_of_dvd (by omega) (Int.natAbs_dvd_natAbs.mpr (partI_dvd_r t b))) (Nat.lt_of_lt_of_le hbb (Nat.pow_le_pow_right (by decide) (by decide)))⟩
    refine ite2 (fun h0 => ?_) (fun h0 => ?_)
    · refine ⟨t, b, rfl, ?_⟩
      simp only [e_v0, e_v1, e_v2, e_v3, e_v4, e_vs, e_set0, e_setS, b_2i, b_int, b_intb, b_abs, e_bl, b_if, b_ff, b_tt, b_un, b_fmti, b_fmts, b_js, b_jsn, b_jsc, b_booli, b_boolb, b_gcons, b_gnil, cxK, true_and, if_true, if_false, Bool.false_eq_true, Bool.not_true, Bool.not_false, exists_eq_left', exists_eq_left]
      have e : gcdI t b = partI t b := by unfold partI; rw [if_pos h0]
      rw [e]
      exact ⟨hc _, hc _, by show 2 ≤ sizeLine; decide, fun p np => q p _ np (Ext.upd np) upd_at⟩
    · refine ⟨t, b, rfl, ?_⟩
      simp only [e_v0, e_v1, e_v2, e_v3, e_v4, e_vs, e_set0, e_setS, b_2i, b_int, b_intb, b_abs, e_bl, b_if, b_ff, b_tt, b_un, b_fmti, b_fmts, b_js, b_jsn, b_jsc, b_booli, b_boolb, b_gcons, b_gnil, cxK, true_and, if_true, if_false, Bool.false_eq_true, Bool.not_true, Bool.not_false, exists_eq_left', exists_eq_left]
      have e : 0 - gcdI t b = partI t b := by unfold partI; rw [if_neg h0, Int.zero_sub]
      rw [e]
      exact ⟨hc _, hc _, by show 2 ≤ sizeLine; decide, fun p np => q p _ np (Ext.upd np) upd_at⟩
end
end Wp

set_option maxHeartbeats 4000000
namespace Wp
open PySem PySem.W L2 PyProof.Rows
/-- o.m(k = v, ..) -/
def tMtK (C : Addr) (m : Str) (n : Nat) (sp : Sp) (gV : List V → List V → List V) (E : XK) (ta : TE) (tk : TA) : TE := fun σ H Q => ta σ H fun x H1 => insOf C H1 x m ∧ tk σ H1 fun zs H2 => zs.length = n ∧ sp (gV [x] zs) H2 Q E
theorem pe_mtK {X : Cx} {k : Nat} {C f : Addr} {fd : FuncData} {ps ks : List Str} {m : Str} {sp : Sp} {E : XK} {o : Expr} {kws : List Keyword} {ta : TE} {tk : TA} {apos pos : Pos} {pl : Sem Bool} {g : List Value → List Value → List Value} {gV : List V → List V → List V} (c : Cls X.K C) (hm : Meth X.K C m f)
    (F : FnOk X.prog X.w X.K X.mg X.base (L2.CX X.prog X.w) k f fd ps sp) (hb : KBn X.K fd ps 1 ks g gV) (hr : Room k X.A) (hx : Passes (L2.CX X.prog X.w) X E) (he : PE X o ta) (hkw : PK X kws tk)
    (hall : (backToKw pos (keywordEach kws X.env)).all (·.1.isSome) = true := by rfl) (hks : (backToKw pos (keywordEach kws X.env)).filterMap (·.1) = ks := by rfl)
    (hpl : ((backTo pos (starEach [] X.env)).any (·.1) || (backToKw pos (keywordEach kws X.env)).any (·.1.isNone)) = false := by rfl)
    (ht : eval (.Call (.Attribute o m apos) [] kws pos) X.env = (do
      let ov ← eval o X.env
      standAt apos.atName
      let (f, first) ← holding [ov] (getMethod ov m pl)
      callWith pos f first (backTo pos (starEach [] X.env)) (backToKw pos (keywordEach kws X.env))) := by rfl) : PE X (.Call (.Attribute o m apos) [] kws pos) (tMtK C m ks.length sp gV E ta tk) := by
  refine ⟨fun pins s σ H Q I h => ?_⟩
  refine PySem.W.methodCall_KW (pl := pl) (thn (he.run pins s σ H _ I h) fun u s1 ⟨x, H1, I1, rx, hi, q⟩ => ?_) ht
  obtain ⟨a, dx, fs, rfl, ea, l⟩ := insOf_get hi
  obtain rfl : u = Value.ref a := rx
  refine getmeth_ok I1 ea c hm l ?_
  refine PySem.W.callWith_KW0 (first := [.ref a]) (h₀ := X.base) I.ok.mod.kin hm.kp hall ?_ hpl
  refine thn (hkw.run pos pins s1 σ H1 _ I1 q) fun ws s2 ⟨zs, H2, I2, rz, l2, q2⟩ => ⟨I2.kIn, ?_⟩
  rw [hks]
  exact run_fnN (us := [.ref a]) (vs := [.ref a]) F hr hb hx I2 (.cons rfl .nil) rz rfl l2 q2
def rMkK (C : Addr) (sp : Sp) (E : XK) (f : V → List V) : Hp → VK → Prop := fun H Q => ∀ x dx, H x = none → H dx = none → dx ≠ x → sp (f (.ref x)) (upd (upd H dx (.own x)) x (.ins C dx [])) (fun v H3 => v = .non ∧ Q (.ref x) H3) E
theorem e_makeK {C : Addr} {n m : Nat} {sp : Sp} {gV : List V → List V → List V} {E : XK} {t tk : TA} {σ : L2.St} {H : Hp} {Q : VK} : tMakeK C n m sp gV E t tk σ H Q = t σ H fun vs H1 => tk σ H1 fun zs H2 => vs.length = n ∧ zs.length = m ∧ rMkK C sp E (fun x => gV (x :: vs) zs) H2 Q := rfl
/-! ### operators of Ratio, one by one -/
structure RB (P : Program) (w : World) (K : PySem.W.Frag) (mg : Str → Option Value) (base : Heap) (C : Addr) : Prop where
  G : Glb mg
  T : ClsRat K C
  gC : mg "Ratio" = some (.ref C)
  gR : GC P w K mg base 2 "Ratio" C (spInit2 C)
def OL (P : Program) (w : World) (K : PySem.W.Frag) (mg : Str → Option Value) (base : Heap) (C : Addr) (nm : String) (sp : Sp) : Prop := ∃ f g, BinM K C nm f g ∧ FnR P w K mg base (L2.CX P w) 4 f sp
def OR (P : Program) (w : World) (K : PySem.W.Frag) (mg : Str → Option Value) (base : Heap) (C : Addr) (nm : String) (sp : Sp) : Prop := ∃ f g, BinM K C nm f g ∧ FnR P w K mg base (L2.CX P w) 4 g sp
def OC (P : Program) (w : World) (K : PySem.W.Frag) (mg : Str → Option Value) (base : Heap) (C : Addr) (k : Nat) (m : Str) (sp : Sp) : Prop := ∃ f, findIn K (.ref C) m = some (some (.ref f)) ∧ isFn K (.ref f) = true ∧ FnR P w K mg base (L2.CX P w) k f sp
section
variable {X : Cx} {K : PySem.W.Frag} {C : Addr} {E : XK} {sp : Sp} {k : Nat}
theorem lAdd (T : ClsRat K C) (D : OL X.prog X.w K X.mg X.base C "add" sp) (hr : Room 4 X.A) (hx : Passes (L2.CX X.prog X.w) X E) (hK : X.K = K := by rfl) : OpR X (binaryOp .Add) (rOpL K C "add" sp E) := by
  obtain ⟨f, g, B, F⟩ := D
  exact op_ownL (op := .Add) T.ins.sf B F hr hx hK
theorem rAdd (T : ClsRat X.K C) (D : OR X.prog X.w X.K X.mg X.base C "add" sp) (hr : Room 4 X.A) (hx : Passes (L2.CX X.prog X.w) X E) : OpR X (binaryOp .Add) (rOpR C sp E) := by
  obtain ⟨f, g, B, F⟩ := D
  exact op_ownR (op := .Add) T.ins.sf B F hr hx PySem.F.fills_int_add T.n_int PySem.F.slot_int_add int_add_ref
theorem iAdd (T : ClsRat K C) (D : OL X.prog X.w K X.mg X.base C "add" sp) (N : findIn K (.ref C) (dunderI "add") = some none) (hr : Room 4 X.A) (hx : Passes (L2.CX X.prog X.w) X E) (hK : X.K = K := by rfl) : PIp X .Add (rOpL K C "add" sp E) := by
  obtain ⟨f, g, B, F⟩ := D
  exact iop_ownL (op := .Add) T.ins.sf T.two N (by rw [typeLookup_type, builtinLookup_eq_fast]; kernel_rfl) B F hr hx hK
theorem lSub (T : ClsRat K C) (D : OL X.prog X.w K X.mg X.base C "sub" sp) (hr : Room 4 X.A) (hx : Passes (L2.CX X.prog X.w) X E) (hK : X.K = K := by rfl) : OpR X (binaryOp .Sub) (rOpL K C "sub" sp E) := by
  obtain ⟨f, g, B, F⟩ := D
  exact op_ownL (op := .Sub) T.ins.sf B F hr hx hK
theorem rSub (T : ClsRat X.K C) (D : OR X.prog X.w X.K X.mg X.base C "sub" sp) (hr : Room 4 X.A) (hx : Passes (L2.CX X.prog X.w) X E) : OpR X (binaryOp .Sub) (rOpR C sp E) := by
  obtain ⟨f, g, B, F⟩ := D
  exact op_ownR (op := .Sub) T.ins.sf B F hr hx PySem.F.fills_int_sub T.n_int PySem.F.slot_int_sub int_sub_ref
theorem iSub (T : ClsRat K C) (D : OL X.prog X.w K X.mg X.base C "sub" sp) (N : findIn K (.ref C) (dunderI "sub") = some none) (hr : Room 4 X.A) (hx : Passes (L2.CX X.prog X.w) X E) (hK : X.K = K := by rfl) : PIp X .Sub (rOpL K C "sub" sp E) := by
  obtain ⟨f, g, B, F⟩ := D
  exact iop_ownL (op := .Sub) T.ins.sf T.two N (by rw [typeLookup_type, builtinLookup_eq_fast]; kernel_rfl) B F hr hx hK
theorem lMul (T : ClsRat K C) (D : OL X.prog X.w K X.mg X.base C "mul" sp) (hr : Room 4 X.A) (hx : Passes (L2.CX X.prog X.w) X E) (hK : X.K = K := by rfl) : OpR X (binaryOp .Mult) (rOpL K C "mul" sp E) := by
  obtain ⟨f, g, B, F⟩ := D
  exact op_ownL (op := .Mult) T.ins.sf B F hr hx hK
theorem rMul (T : ClsRat X.K C) (D : OR X.prog X.w X.K X.mg X.base C "mul" sp) (hr : Room 4 X.A) (hx : Passes (L2.CX X.prog X.w) X E) : OpR X (binaryOp .Mult) (rOpR C sp E) := by
  obtain ⟨f, g, B, F⟩ := D
  exact op_ownR (op := .Mult) T.ins.sf B F hr hx PySem.F.fills_int_mul T.n_int PySem.F.slot_int_mul int_mul_ref
theorem iMul (T : ClsRat K C) (D : OL X.prog X.w K X.mg X.base C "mul" sp) (N : findIn K (.ref C) (dunderI "mul") = some none) (hr : Room 4 X.A) (hx : Passes (L2.CX X.prog X.w) X E) (hK : X.K = K := by rfl) : PIp X .Mult (rOpL K C "mul" sp E) := by
  obtain ⟨f, g, B, F⟩ := D
  exact iop_ownL (op := .Mult) T.ins.sf T.two N (by rw [typeLookup_type, builtinLookup_eq_fast]; kernel_rfl) B F hr hx hK
theorem lFloordiv (T : ClsRat K C) (D : OL X.prog X.w K X.mg X.base C "floordiv" sp) (hr : Room 4 X.A) (hx : Passes (L2.CX X.prog X.w) X E) (hK : X.K = K := by rfl) : OpR X (binaryOp .FloorDiv) (rOpL K C "floordiv" sp E) := by
  obtain ⟨f, g, B, F⟩ := D
  exact op_ownL (op := .FloorDiv) T.ins.sf B F hr hx hK
theorem rFloordiv (T : ClsRat X.K C) (D : OR X.prog X.w X.K X.mg X.base C "floordiv" sp) (hr : Room 4 X.A) (hx : Passes (L2.CX X.prog X.w) X E) : OpR X (binaryOp .FloorDiv) (rOpR C sp E) := by
  obtain ⟨f, g, B, F⟩ := D
  exact op_ownR (op := .FloorDiv) T.ins.sf B F hr hx PySem.F.fills_int_floordiv T.n_int PySem.F.slot_int_floordiv int_floordiv_ref
theorem iFloordiv (T : ClsRat K C) (D : OL X.prog X.w K X.mg X.base C "floordiv" sp) (N : findIn K (.ref C) (dunderI "floordiv") = some none) (hr : Room 4 X.A) (hx : Passes (L2.CX X.prog X.w) X E) (hK : X.K = K := by rfl) : PIp X .FloorDiv (rOpL K C "floordiv" sp E) := by
  obtain ⟨f, g, B, F⟩ := D
  exact iop_ownL (op := .FloorDiv) T.ins.sf T.two N (by rw [typeLookup_type, builtinLookup_eq_fast]; kernel_rfl) B F hr hx hK
theorem lMod (T : ClsRat K C) (D : OL X.prog X.w K X.mg X.base C "mod" sp) (hr : Room 4 X.A) (hx : Passes (L2.CX X.prog X.w) X E) (hK : X.K = K := by rfl) : OpR X (binaryOp .Mod) (rOpL K C "mod" sp E) := by
  obtain ⟨f, g, B, F⟩ := D
  exact op_ownL (op := .Mod) T.ins.sf B F hr hx hK
theorem rMod (T : ClsRat X.K C) (D : OR X.prog X.w X.K X.mg X.base C "mod" sp) (hr : Room 4 X.A) (hx : Passes (L2.CX X.prog X.w) X E) : OpR X (binaryOp .Mod) (rOpR C sp E) := by
  obtain ⟨f, g, B, F⟩ := D
  exact op_ownR (op := .Mod) T.ins.sf B F hr hx PySem.F.fills_int_mod T.n_int PySem.F.slot_int_mod int_mod_ref
theorem iMod (T : ClsRat K C) (D : OL X.prog X.w K X.mg X.base C "mod" sp) (N : findIn K (.ref C) (dunderI "mod") = some none) (hr : Room 4 X.A) (hx : Passes (L2.CX X.prog X.w) X E) (hK : X.K = K := by rfl) : PIp X .Mod (rOpL K C "mod" sp E) := by
  obtain ⟨f, g, B, F⟩ := D
  exact iop_ownL (op := .Mod) T.ins.sf T.two N (by rw [typeLookup_type, builtinLookup_eq_fast]; kernel_rfl) B F hr hx hK
theorem cLt (D : OC X.prog X.w K X.mg X.base C k "__lt__" sp) (hr : Room k X.A) (hx : Passes (L2.CX X.prog X.w) X E) (hK : X.K = K := by rfl) : OpR X (compareOp .Lt) (rCmpO K C sp E) := by
  obtain ⟨f, h1, h2, F⟩ := D
  exact op_cmpO (op := .Lt) (fun _ _ => rfl) h1 h2 F hr hx hK
theorem cLtE (D : OC X.prog X.w K X.mg X.base C k "__le__" sp) (hr : Room k X.A) (hx : Passes (L2.CX X.prog X.w) X E) (hK : X.K = K := by rfl) : OpR X (compareOp .LtE) (rCmpO K C sp E) := by
  obtain ⟨f, h1, h2, F⟩ := D
  exact op_cmpO (op := .LtE) (fun _ _ => rfl) h1 h2 F hr hx hK
theorem cGt (D : OC X.prog X.w K X.mg X.base C k "__gt__" sp) (hr : Room k X.A) (hx : Passes (L2.CX X.prog X.w) X E) (hK : X.K = K := by rfl) : OpR X (compareOp .Gt) (rCmpO K C sp E) := by
  obtain ⟨f, h1, h2, F⟩ := D
  exact op_cmpO (op := .Gt) (fun _ _ => rfl) h1 h2 F hr hx hK
theorem cGtE (D : OC X.prog X.w K X.mg X.base C k "__ge__" sp) (hr : Room k X.A) (hx : Passes (L2.CX X.prog X.w) X E) (hK : X.K = K := by rfl) : OpR X (compareOp .GtE) (rCmpO K C sp E) := by
  obtain ⟨f, h1, h2, F⟩ := D
  exact op_cmpO (op := .GtE) (fun _ _ => rfl) h1 h2 F hr hx hK
theorem cEq (D : OC X.prog X.w K X.mg X.base C k "__eq__" sp) (hr : Room k X.A) (hx : Passes (L2.CX X.prog X.w) X E) (hK : X.K = K := by rfl) : OpR X (compareOp .Eq) (rCmpO K C sp E) := by
  obtain ⟨f, h1, h2, F⟩ := D
  exact op_cmpO (op := .Eq) (fun _ _ => rfl) h1 h2 F hr hx hK
theorem cNe (T : ClsRat K C) (D : OC X.prog X.w K X.mg X.base C k "__eq__" sp) (ne : findIn K (.ref C) "__ne__" = some (some (.builtin "object.__ne__"))) (hr : Room (k + 1) X.A) (hx : Passes (L2.CX X.prog X.w) X E) (hK : X.K = K := by rfl) : OpR X (compareOp .NotEq) (rNeO K C sp E) := by
  obtain ⟨f, h1, h2, F⟩ := D
  exact op_neO h1 h2 ne T.ins.hm F hr hx hK
end
section
variable {P : Program} {w : World} {K : PySem.W.Frag} {mg : Str → Option Value} {base : Heap} {C : Addr}
theorem s_mkK {H : Hp} {Q : VK} {E : XK} {t b : Int} (hb : b ≠ 0) (hbb : big b) (q : ∀ a dx H', H a = none → H' a = some (.ins C dx (ratF (lowT t b) (lowB t b))) → Ext H H' → Q (.ref a) H') : rMkK C (spInit C) E (fun x => [x, .int t, .int b]) H Q := s_mkI hb hbb q
/-! ### numbers as operands -/
theorem num_int {i : Int} {H : Hp} : Num C H (.int i) i 1 := .inl ⟨rfl, rfl⟩
theorem num_rat {a dx : Addr} {t b : Int} {H : Hp} (h : H a = some (.ins C dx (ratF t b))) : Num C H (.ref a) t b := .inr ⟨a, dx, rfl, h⟩
theorem numT_own {H : Hp} {a dx : Addr} {fs : List (Str × V)} {nm : String} (T : ClsRat K C) (h : H a = some (.ins C dx fs)) : rTy K (.ref a) H (NumT K C nm) := t_ins h T.ins (.inl rfl)
theorem numT_add {i : Int} {H : Hp} (T : ClsRat K C) : rTy K (.int i) H (NumT K C "add") := .inr ⟨"int", true, some (.builtin "int.__radd__"), rfl, PySem.F.fills_int_add, T.s_int, by rw [typeLookup_type, builtinLookup_eq_fast]; kernel_rfl⟩
theorem numT_sub {i : Int} {H : Hp} (T : ClsRat K C) : rTy K (.int i) H (NumT K C "sub") := .inr ⟨"int", true, some (.builtin "int.__rsub__"), rfl, PySem.F.fills_int_sub, T.s_int, by rw [typeLookup_type, builtinLookup_eq_fast]; kernel_rfl⟩
theorem numT_mul {i : Int} {H : Hp} (T : ClsRat K C) : rTy K (.int i) H (NumT K C "mul") := .inr ⟨"int", true, some (.builtin "int.__rmul__"), rfl, PySem.F.fills_int_mul, T.s_int, by rw [typeLookup_type, builtinLookup_eq_fast]; kernel_rfl⟩
theorem s_insOf {H : Hp} {a dx : Addr} {fs : List (Str × V)} {m : Str} (h : H a = some (.ins C dx fs)) (l : fs.lookup m = none := by rfl) : insOf C H (.ref a) m := by
  unfold insOf; simp only [h]; first | exact ⟨rfl, l⟩ | exact ⟨trivial, l⟩ | exact l
theorem nf_self {K : PySem.W.Frag} {C : Addr} : notFirst K C (.ref C) = true := by
  unfold notFirst; simp
theorem nf_of {K : PySem.W.Frag} {C : Addr} {t : Value} (h : subIn K t (.ref C) = some false) : notFirst K C t = true := by
  unfold notFirst; simp [h]
theorem ty_own {H : Hp} {a dx : Addr} {fs : List (Str × V)} (T : ClsRat K C) (h : H a = some (.ins C dx fs)) : rTy K (.ref a) H (fun t => notFirst K C t = true) := t_ins h T.ins nf_self
theorem ty_int {H : Hp} {i : Int} (T : ClsRat K C) : rTy K (.int i) H (fun t => notFirst K C t = true) := nf_of T.s_int
theorem ty_bl {H : Hp} {i : Bool} (T : ClsRat K C) : rTy K (.bl i) H (fun t => notFirst K C t = true) := nf_of T.s_bool
theorem numT_floordiv {i : Int} {H : Hp} (T : ClsRat K C) : rTy K (.int i) H (NumT K C "floordiv") := .inr ⟨"int", true, some (.builtin "int.__rfloordiv__"), rfl, PySem.F.fills_int_floordiv, T.s_int, by rw [typeLookup_type, builtinLookup_eq_fast]; kernel_rfl⟩
theorem numT_mod {i : Int} {H : Hp} (T : ClsRat K C) : rTy K (.int i) H (NumT K C "mod") := .inr ⟨"int", true, some (.builtin "int.__rmod__"), rfl, PySem.F.fills_int_mod, T.s_int, by rw [typeLookup_type, builtinLookup_eq_fast]; kernel_rfl⟩
theorem sm_one : sm 1 := by unfold sm; decide +kernel
end
end Wp

set_option maxHeartbeats 4000000
namespace Wp
open PySem PySem.W L2 PyProof.Rows
theorem boot_repr : bootBuiltins "repr" = some (.builtin "repr") := by kernel_rfl
section
variable {P : Program} {w : World} {K : PySem.W.Frag} {mg : Str → Option Value} {base : Heap} {C : Addr}
theorem s_reprD {H : Hp} {Q : VK} {a : Addr} {d : PyData} (h : toD H 8 (.ref a) = some d) (h1 : d.showable = true) (h2 : d.shown.length ≤ sizeLine) (q : Q (.str d.shown) H) : rRepr [.ref a] H Q := by
  unfold rRepr; simp only [h]; exact ⟨h1, h2, q⟩
theorem s_reprI {H : Hp} {Q : VK} {i : Int} (h : i.natAbs.log2 < 1920) (q : Q (.str ((toString i : String) : Str)) H) : rRepr [.int i] H Q := ⟨h, q⟩
theorem show4 (b1 b2 b3 b4 : Bool) : (PyData.list [.bool b1, .bool b2, .bool b3, .bool b4]).showable = true ∧ (PyData.list [.bool b1, .bool b2, .bool b3, .bool b4]).shown.length ≤ sizeLine := by
  refine ⟨by simp [PyData.showable, PyData.showableAll], ?_⟩
  cases b1 <;> cases b2 <;> cases b3 <;> cases b4 <;> decide +kernel
/-- bounds of what is drawn, and three times as much -/
abbrev nn (i : Int) : Prop := i.natAbs < 2 ^ 300
theorem nn_sm {i : Int} (h : nn i) : sm i := up_pow h (by decide)
structure R8 (P : Program) (w : World) (K : PySem.W.Frag) (mg : Str → Option Value) (base : Heap) (C : Addr) : Prop extends RB P w K mg base C where
  low : GF P w K mg base 2 "_law_lowest" spLowest
  lt : OC P w K mg base C 4 "__lt__" (spCmp C fun i j => decide (i < j))
  le : OC P w K mg base C 4 "__le__" (spCmp C fun i j => decide (i ≤ j))
  gt : OC P w K mg base C 4 "__gt__" (spCmp C fun i j => decide (j < i))
  ge : OC P w K mg base C 4 "__ge__" (spCmp C fun i j => decide (j ≤ i))
  eq : OC P w K mg base C 2 "__eq__" (spEq C)
  keq : ∃ f fd, findIn K (.ref C) "__eq__" = some (some (.ref f)) ∧ isFn K (.ref f) = true ∧ FnOk P w K mg base (L2.CX P w) 2 f fd ["self", "other"] (spEq C) ∧ Binds K fd ["self", "other"] []
  ne : findIn K (.ref C) "__ne__" = some (some (.builtin "object.__ne__"))
  fd : OL P w K mg base C "floordiv" (spFd C)
  md : OL P w K mg base C "mod" (spMod C)
  rfd : OR P w K mg base C "floordiv" (spRfd C)
  rmd : OR P w K mg base C "mod" (spRmod C)
  sub : OL P w K mg base C "sub" (spSub C)
  mul : OL P w K mg base C "mul" (spMul C)
  ifd : findIn K (.ref C) (dunderI "floordiv") = some none
  imd : findIn K (.ref C) (dunderI "mod") = some none
def spOrder : Sp := fun vs H Q _ => ∃ p1 p2 a b c d, vs = [.ref p1, .ref p2] ∧ H p1 = some (.tup [.int a, .int b]) ∧ H p2 = some (.tup [.int c, .int d]) ∧ nn a ∧ nn b ∧ nn c ∧ nn d ∧ b ≠ 0 ∧ d ≠ 0 ∧ ∀ H', Ext H H' → Q (.bl true) H'
abbrev sOrder : Stmt := topS 24
theorem scOrder : FnScope ["_law_one", "_law_two", "_law_a", "_law_b", "_law_c", "_law_d", "_law_first", "_law_second", "_law_gap", "_law_told"] ["_law_one", "_law_two"] (defScope sOrder) := ⟨rfl, rfl, rfl, by decide +kernel, rfl, by decide +kernel, by decide +kernel⟩
theorem ok_order {f : Addr} {fd : FuncData} (F : FunS K "_law_order_right" "_law_order_right" sOrder [] f fd) (D : R8 P w K mg base C) : FnG P w K mg base 6 f fd ["_law_one", "_law_two"] spOrder := by
  refine okG F scOrder (fun vs H Q E h => ?_) (fun cdv A outer s H vs Q E hr hgd h => ?_)
  · obtain ⟨p1, p2, a, b, c, d, rfl, _⟩ := h
    rfl
  · obtain ⟨p1, p2, a, b, c, d, rfl, g1, g2, na, nb, nc, nd, hb, hd, q⟩ := h
    have G := D.G
    have hu := hr.units
    refine ⟨_, (pss_cons (ps_asg (pe_tup (pa_cons (pe_fn D.low (hr.mono (by decide)) (passes_call (takes_of rfl rfl rfl rfl) (fun _ _ _ _ h => h)) (pa_cons (pe_ix oIx (pv 0) pe_int (fun _ _ => rfl)) (pa_cons (pe_ix oIx (pv 0) pe_int (fun _ _ => rfl)) pa_nil))) (pa_cons (pe_fn D.low (hr.mono (by decide)) (passes_call (takes_of rfl rfl rfl rfl) (fun _ _ _ _ h => h)) (pa_cons (pe_ix oIx (pv 1) pe_int (fun _ _ => rfl)) (pa_cons (pe_ix oIx (pv 1) pe_int (fun _ _ => rfl)) pa_nil))) pa_nil))) (pg_unpU (n := 2) rfl (pgs_cons (pg_unpU (n := 2) rfl (pgs_cons (pg_name (i := 2) scOrder.nd rfl (Or.inl rfl)) (pgs_cons (pg_name (i := 3) scOrder.nd rfl (Or.inl rfl)) pgs_nil))) (pgs_cons (pg_unpU (n := 2) rfl (pgs_cons (pg_name (i := 4) scOrder.nd rfl (Or.inl rfl)) (pgs_cons (pg_name (i := 5) scOrder.nd rfl (Or.inl rfl)) pgs_nil))) pgs_nil))))
      (pss_cons (ps_par3 (i := 6) (j := 7) (l := 8) rfl scOrder.nd rfl rfl rfl (by decide) (by decide) (by decide) rfl rfl rfl (pa_cons (pe_mk D.gR (hr.mono (by decide)) (passes_call (takes_of rfl rfl rfl rfl) (fun _ _ _ _ h => h)) (pa_cons (pe_ix oIx (pv 0) pe_int (fun _ _ => rfl)) (pa_cons (pe_ix oIx (pv 0) pe_int (fun _ _ => rfl)) pa_nil))) (pa_cons (pe_mk D.gR (hr.mono (by decide)) (passes_call (takes_of rfl rfl rfl rfl) (fun _ _ _ _ h => h)) (pa_cons (pe_ix oIx (pv 1) pe_int (fun _ _ => rfl)) (pa_cons (pe_ix oIx (pv 1) pe_int (fun _ _ => rfl)) pa_nil))) (pa_cons (pe_op oSub (pe_op oMul (pv 2) (pv 5)) (pe_op oMul (pv 4) (pv 3))) pa_nil))) (by rfl))
      (pss_cons (ps_set (i := 9) scOrder.nd rfl (Or.inl rfl) (pe_lst (pa_cons (pe_cmpR (cLt (K := K) D.lt (hr.mono (by decide)) (passes_call (takes_of rfl rfl rfl rfl) (fun _ _ _ _ h => h))) (pv 6) (pv 7) (nomark _)) (pa_cons (pe_cmpR (cLtE (K := K) D.le (hr.mono (by decide)) (passes_call (takes_of rfl rfl rfl rfl) (fun _ _ _ _ h => h))) (pv 6) (pv 7) (nomark _)) (pa_cons (pe_cmpR (cGt (K := K) D.gt (hr.mono (by decide)) (passes_call (takes_of rfl rfl rfl rfl) (fun _ _ _ _ h => h))) (pv 6) (pv 7) (nomark _)) (pa_cons (pe_cmpR (cGtE (K := K) D.ge (hr.mono (by decide)) (passes_call (takes_of rfl rfl rfl rfl) (fun _ _ _ _ h => h))) (pv 6) (pv 7) (nomark _)) pa_nil))))))
      (pss_one (ps_ret (pe_cmpR op_eq (pe_callB (cRepr hgd hu) (by rfl) G.repr boot_repr (pa_cons (pv 9) pa_nil)) (pe_callB (cRepr hgd hu) (by rfl) G.repr boot_repr (pa_cons (pe_lst (pa_cons (pe_cmpR oLt (pv 8) pe_int (nomark _)) (pa_cons (pe_cmpR oLe (pv 8) pe_int (nomark _)) (pa_cons (pe_cmpR oGt (pv 8) pe_int (nomark _)) (pa_cons (pe_cmpR oGe (pv 8) pe_int (nomark _)) pa_nil))))) pa_nil)) (nomark _))))))), ?_⟩
    have sa := nn_sm na
    have sb := nn_sm nb
    have sc := nn_sm nc
    have sd := nn_sm nd
    have hbB := sm_big sb
    have hdB := sm_big sd
    have st1 : sm (lowT a b) := Nat.lt_of_le_of_lt (lowT_abs hb) sa
    have sb1 : sm (lowB a b) := Nat.lt_of_le_of_lt (lowB_abs hb) sb
    have st2 : sm (lowT c d) := Nat.lt_of_le_of_lt (lowT_abs hd) sc
    have sb2 : sm (lowB c d) := Nat.lt_of_le_of_lt (lowB_abs hd) sd
    try simp only [tSeq, tIfS, tAsg, tRet, tRetN, tDrop, tOp, tUn, tC, tCB, tCons, tNil, gName, gSub, gUnpU, tTest, tB, tNext, tAnd, tOr, tNot, tAndV, tOrV, tNotV, tIf, tLst, tTup, tPar, tPar3, tFn, tMkU, tMtU, tFldU, tSetF, tFmtU, tChain, tSl, tPart, L2.start, List.map_cons, List.map_nil, List.length_cons, List.length_nil, Nat.reduceAdd, Nat.reduceSub, List.reduceReplicate, List.cons_append, List.nil_append, e_v0, e_v1, e_v2, e_v3, e_v4, e_vs, e_set0, e_setS, b_2i, b_int, b_intb, b_abs, e_bl, b_if, b_ff, b_tt, b_un, b_fmti, b_fmts, b_js, b_jsn, b_jsc, b_booli, b_boolb, b_gcons, b_gnil, cxK, true_and, if_true, if_false, Bool.false_eq_true, Bool.not_true, Bool.not_false, exists_eq_left', exists_eq_left]
    refine s_ixT g1 at0 ?_
    refine s_ixT g1 at1 ?_
    refine ⟨a, b, rfl, hb, hbB, fun q1 H1 _ x1 e1 => ?_⟩
    refine s_ixT (x1.at g2) at0 ?_
    refine s_ixT (x1.at g2) at1 ?_
    refine ⟨c, d, rfl, hd, hdB, fun q2 H2 _ x2 e2 => ?_⟩
    refine ⟨by decide, fun p3 n3 => ?_⟩
    refine s_unp upd_at rfl ?_
    try simp only [tSeq, tIfS, tAsg, tRet, tRetN, tDrop, tOp, tUn, tC, tCB, tCons, tNil, gName, gSub, gUnpU, tTest, tB, tNext, tAnd, tOr, tNot, tAndV, tOrV, tNotV, tIf, tLst, tTup, tPar, tPar3, tFn, tMkU, tMtU, tFldU, tSetF, tFmtU, tChain, tSl, tPart, L2.start, List.map_cons, List.map_nil, List.length_cons, List.length_nil, Nat.reduceAdd, Nat.reduceSub, List.reduceReplicate, List.cons_append, List.nil_append, e_v0, e_v1, e_v2, e_v3, e_v4, e_vs, e_set0, e_setS, b_2i, b_int, b_intb, b_abs, e_bl, b_if, b_ff, b_tt, b_un, b_fmti, b_fmts, b_js, b_jsn, b_jsc, b_booli, b_boolb, b_gcons, b_gnil, cxK, true_and, if_true, if_false, Bool.false_eq_true, Bool.not_true, Bool.not_false, exists_eq_left', exists_eq_left]
    refine s_unp (by (repeat (first | assumption | exact upd_at | refine g_old (by assumption) ?_ | refine Ext.at (by assumption) ?_))) rfl ?_
    try simp only [tSeq, tIfS, tAsg, tRet, tRetN, tDrop, tOp, tUn, tC, tCB, tCons, tNil, gName, gSub, gUnpU, tTest, tB, tNext, tAnd, tOr, tNot, tAndV, tOrV, tNotV, tIf, tLst, tTup, tPar, tPar3, tFn, tMkU, tMtU, tFldU, tSetF, tFmtU, tChain, tSl, tPart, L2.start, List.map_cons, List.map_nil, List.length_cons, List.length_nil, Nat.reduceAdd, Nat.reduceSub, List.reduceReplicate, List.cons_append, List.nil_append, e_v0, e_v1, e_v2, e_v3, e_v4, e_vs, e_set0, e_setS, b_2i, b_int, b_intb, b_abs, e_bl, b_if, b_ff, b_tt, b_un, b_fmti, b_fmts, b_js, b_jsn, b_jsc, b_booli, b_boolb, b_gcons, b_gnil, cxK, true_and, if_true, if_false, Bool.false_eq_true, Bool.not_true, Bool.not_false, exists_eq_left', exists_eq_left]
    refine s_unp (by (repeat (first | assumption | exact upd_at | refine g_old (by assumption) ?_ | refine Ext.at (by assumption) ?_))) rfl ?_
    try simp only [tSeq, tIfS, tAsg, tRet, tRetN, tDrop, tOp, tUn, tC, tCB, tCons, tNil, gName, gSub, gUnpU, tTest, tB, tNext, tAnd, tOr, tNot, tAndV, tOrV, tNotV, tIf, tLst, tTup, tPar, tPar3, tFn, tMkU, tMtU, tFldU, tSetF, tFmtU, tChain, tSl, tPart, L2.start, List.map_cons, List.map_nil, List.length_cons, List.length_nil, Nat.reduceAdd, Nat.reduceSub, List.reduceReplicate, List.cons_append, List.nil_append, e_v0, e_v1, e_v2, e_v3, e_v4, e_vs, e_set0, e_setS, b_2i, b_int, b_intb, b_abs, e_bl, b_if, b_ff, b_tt, b_un, b_fmti, b_fmts, b_js, b_jsn, b_jsc, b_booli, b_boolb, b_gcons, b_gnil, cxK, true_and, if_true, if_false, Bool.false_eq_true, Bool.not_true, Bool.not_false, exists_eq_left', exists_eq_left]
    refine s_ixT (by (repeat (first | assumption | exact upd_at | refine g_old (by assumption) ?_ | refine Ext.at (by assumption) ?_))) at0 ?_
    refine s_ixT (by (repeat (first | assumption | exact upd_at | refine g_old (by assumption) ?_ | refine Ext.at (by assumption) ?_))) at1 ?_
    refine s_mkRat (.inl rfl) hb hbB (fun A1 d1 H3 _ r1 x3 => ?_)
    have g2' : H3 p2 = some (.tup [.int c, .int d]) := by (repeat (first | assumption | exact upd_at | refine g_old (by assumption) ?_ | refine Ext.at (by assumption) ?_))
    refine s_ixT g2' at0 ?_
    refine s_ixT g2' at1 ?_
    refine s_mkRat (.inl rfl) hd hdB (fun A2 d2 H4 _ r2 x4 => ?_)
    have r1' := x4.at r1
    try simp only [tSeq, tIfS, tAsg, tRet, tRetN, tDrop, tOp, tUn, tC, tCB, tCons, tNil, gName, gSub, gUnpU, tTest, tB, tNext, tAnd, tOr, tNot, tAndV, tOrV, tNotV, tIf, tLst, tTup, tPar, tPar3, tFn, tMkU, tMtU, tFldU, tSetF, tFmtU, tChain, tSl, tPart, L2.start, List.map_cons, List.map_nil, List.length_cons, List.length_nil, Nat.reduceAdd, Nat.reduceSub, List.reduceReplicate, List.cons_append, List.nil_append, e_v0, e_v1, e_v2, e_v3, e_v4, e_vs, e_set0, e_setS, b_2i, b_int, b_intb, b_abs, e_bl, b_if, b_ff, b_tt, b_un, b_fmti, b_fmts, b_js, b_jsn, b_jsc, b_booli, b_boolb, b_gcons, b_gnil, cxK, true_and, if_true, if_false, Bool.false_eq_true, Bool.not_true, Bool.not_false, exists_eq_left', exists_eq_left]
    refine ⟨cmulB st1 sb2, cmulB st2 sb1, _, _, _, rfl, ?_⟩
    try simp only [tSeq, tIfS, tAsg, tRet, tRetN, tDrop, tOp, tUn, tC, tCB, tCons, tNil, gName, gSub, gUnpU, tTest, tB, tNext, tAnd, tOr, tNot, tAndV, tOrV, tNotV, tIf, tLst, tTup, tPar, tPar3, tFn, tMkU, tMtU, tFldU, tSetF, tFmtU, tChain, tSl, tPart, L2.start, List.map_cons, List.map_nil, List.length_cons, List.length_nil, Nat.reduceAdd, Nat.reduceSub, List.reduceReplicate, List.cons_append, List.nil_append, e_v0, e_v1, e_v2, e_v3, e_v4, e_vs, e_set0, e_setS, b_2i, b_int, b_intb, b_abs, e_bl, b_if, b_ff, b_tt, b_un, b_fmti, b_fmts, b_js, b_jsn, b_jsc, b_booli, b_boolb, b_gcons, b_gnil, cxK, true_and, if_true, if_false, Bool.false_eq_true, Bool.not_true, Bool.not_false, exists_eq_left', exists_eq_left]
    refine ⟨s_ins r1', ty_own D.T r2, A1, d1, _, _, _, _, _, rfl, r1', num_rat r2, st1, sb1, st2, sb2, fun H5 x5 => ?_⟩
    refine ⟨s_ins (x5.at r1'), ty_own D.T (x5.at r2), A1, d1, _, _, _, _, _, rfl, x5.at r1', num_rat (x5.at r2), st1, sb1, st2, sb2, fun H6 x6 => ?_⟩
    refine ⟨s_ins (x6.at (x5.at r1')), ty_own D.T (x6.at (x5.at r2)), A1, d1, _, _, _, _, _, rfl, x6.at (x5.at r1'), num_rat (x6.at (x5.at r2)), st1, sb1, st2, sb2, fun H7 x7 => ?_⟩
    refine ⟨s_ins (x7.at (x6.at (x5.at r1'))), ty_own D.T (x7.at (x6.at (x5.at r2))), A1, d1, _, _, _, _, _, rfl, x7.at (x6.at (x5.at r1')), num_rat (x7.at (x6.at (x5.at r2))), st1, sb1, st2, sb2, fun H8 x8 => ?_⟩
    refine ⟨by decide, fun p9 n9 => ?_⟩
    try simp only [tSeq, tIfS, tAsg, tRet, tRetN, tDrop, tOp, tUn, tC, tCB, tCons, tNil, gName, gSub, gUnpU, tTest, tB, tNext, tAnd, tOr, tNot, tAndV, tOrV, tNotV, tIf, tLst, tTup, tPar, tPar3, tFn, tMkU, tMtU, tFldU, tSetF, tFmtU, tChain, tSl, tPart, L2.start, List.map_cons, List.map_nil, List.length_cons, List.length_nil, Nat.reduceAdd, Nat.reduceSub, List.reduceReplicate, List.cons_append, List.nil_append, e_v0, e_v1, e_v2, e_v3, e_v4, e_vs, e_set0, e_setS, b_2i, b_int, b_intb, b_abs, e_bl, b_if, b_ff, b_tt, b_un, b_fmti, b_fmts, b_js, b_jsn, b_jsc, b_booli, b_boolb, b_gcons, b_gnil, cxK, true_and, if_true, if_false, Bool.false_eq_true, Bool.not_true, Bool.not_false, exists_eq_left', exists_eq_left]
    have k1 : decide (lowT a b * lowB c d - lowT c d * lowB a b < 0) = decide (lowT a b * lowB c d < lowT c d * lowB a b) := decide_eq_decide.mpr (by omega)
    have k2 : decide (lowT a b * lowB c d - lowT c d * lowB a b ≤ 0) = decide (lowT a b * lowB c d ≤ lowT c d * lowB a b) := decide_eq_decide.mpr (by omega)
    have k3 : decide (0 < lowT a b * lowB c d - lowT c d * lowB a b) = decide (lowT c d * lowB a b < lowT a b * lowB c d) := decide_eq_decide.mpr (by omega)
    have k4 : decide (0 ≤ lowT a b * lowB c d - lowT c d * lowB a b) = decide (lowT c d * lowB a b ≤ lowT a b * lowB c d) := decide_eq_decide.mpr (by omega)
    rw [k1, k2, k3, k4]
    refine s_reprD (d_lst upd_at (d_cons d_bl (d_cons d_bl (d_cons d_bl (d_cons d_bl d_nil))))) (show4 _ _ _ _).1 (show4 _ _ _ _).2 ?_
    refine ⟨by decide, fun p10 n10 => ?_⟩
    refine s_reprD (d_lst upd_at (d_cons d_bl (d_cons d_bl (d_cons d_bl (d_cons d_bl d_nil))))) (show4 _ _ _ _).1 (show4 _ _ _ _).2 ?_
    refine ⟨rfl, ?_⟩
    rw [decide_eq_true rfl]
    exact q _ (x1.trans (x2.trans ((Ext.upd n3).trans (x3.trans (x4.trans (x5.trans (x6.trans (x7.trans (x8.trans ((Ext.upd n9).trans (Ext.upd n10)))))))))))
end
end Wp

set_option maxHeartbeats 4000000
namespace Wp
open PySem PySem.W L2 PyProof.Rows
section
variable {P : Program} {w : World} {K : PySem.W.Frag} {mg : Str → Option Value} {base : Heap} {C : Addr}
theorem nn_log {i : Int} {n : Nat} (h : i.natAbs < 2 ^ n) (l : n ≤ 1920) : i.natAbs.log2 < 1920 := by
  by_cases z : i.natAbs = 0
  · rw [z]; decide
  · exact (Nat.log2_lt z).mpr (Nat.lt_of_lt_of_le h (Nat.pow_le_pow_right (by decide) l))
def spRest : Sp := fun vs H Q _ => ∃ p1 p2 a b c d, vs = [.ref p1, .ref p2] ∧ H p1 = some (.tup [.int a, .int b]) ∧ H p2 = some (.tup [.int c, .int d]) ∧ nn a ∧ nn b ∧ nn c ∧ nn d ∧ b ≠ 0 ∧ d ≠ 0 ∧ c ≠ 0 ∧ ∀ H', Ext H H' → Q (.bl true) H'
abbrev sRest : Stmt := topS 25
theorem scRest : FnScope ["_law_one", "_law_two", "_law_a", "_law_b", "_law_c", "_law_d", "_law_first", "_law_second", "_law_whole", "_law_rest"] ["_law_one", "_law_two"] (defScope sRest) := ⟨rfl, rfl, rfl, by decide +kernel, rfl, by decide +kernel, by decide +kernel⟩
theorem ok_rest {f : Addr} {fd : FuncData} (F : FunS K "_law_rest_right" "_law_rest_right" sRest [] f fd) (D : R8 P w K mg base C) : FnG P w K mg base 6 f fd ["_law_one", "_law_two"] spRest := by
  refine okG F scRest (fun vs H Q E h => ?_) (fun cdv A outer s H vs Q E hr hgd h => ?_)
  · obtain ⟨p1, p2, a, b, c, d, rfl, _⟩ := h
    rfl
  · obtain ⟨p1, p2, a, b, c, d, rfl, g1, g2, na, nb, nc, nd, hb, hd, hc, q⟩ := h
    have G := D.G
    have hu := hr.units
    refine ⟨_, (pss_cons (ps_asg (pe_tup (pa_cons (pe_fn D.low (hr.mono (by decide)) (passes_call (takes_of rfl rfl rfl rfl) (fun _ _ _ _ h => h)) (pa_cons (pe_ix oIx (pv 0) pe_int (fun _ _ => rfl)) (pa_cons (pe_ix oIx (pv 0) pe_int (fun _ _ => rfl)) pa_nil))) (pa_cons (pe_fn D.low (hr.mono (by decide)) (passes_call (takes_of rfl rfl rfl rfl) (fun _ _ _ _ h => h)) (pa_cons (pe_ix oIx (pv 1) pe_int (fun _ _ => rfl)) (pa_cons (pe_ix oIx (pv 1) pe_int (fun _ _ => rfl)) pa_nil))) pa_nil))) (pg_unpU (n := 2) rfl (pgs_cons (pg_unpU (n := 2) rfl (pgs_cons (pg_name (i := 2) scRest.nd rfl (Or.inl rfl)) (pgs_cons (pg_name (i := 3) scRest.nd rfl (Or.inl rfl)) pgs_nil))) (pgs_cons (pg_unpU (n := 2) rfl (pgs_cons (pg_name (i := 4) scRest.nd rfl (Or.inl rfl)) (pgs_cons (pg_name (i := 5) scRest.nd rfl (Or.inl rfl)) pgs_nil))) pgs_nil))))
      (pss_cons (ps_par (i := 6) (j := 7) rfl scRest.nd rfl rfl (by decide) rfl rfl (pa_cons (pe_mk D.gR (hr.mono (by decide)) (passes_call (takes_of rfl rfl rfl rfl) (fun _ _ _ _ h => h)) (pa_cons (pe_ix oIx (pv 0) pe_int (fun _ _ => rfl)) (pa_cons (pe_ix oIx (pv 0) pe_int (fun _ _ => rfl)) pa_nil))) (pa_cons (pe_mk D.gR (hr.mono (by decide)) (passes_call (takes_of rfl rfl rfl rfl) (fun _ _ _ _ h => h)) (pa_cons (pe_ix oIx (pv 1) pe_int (fun _ _ => rfl)) (pa_cons (pe_ix oIx (pv 1) pe_int (fun _ _ => rfl)) pa_nil))) pa_nil)) (by rfl))
      (pss_cons (ps_set (i := 8) scRest.nd rfl (Or.inl rfl) (pe_op oFdivN (pe_op oMul (pv 2) (pv 5)) (pe_op oMul (pv 3) (pv 4))))
      (pss_cons (ps_if (pt_cmpR op_ne (pe_callB (cRepr hgd hu) (by rfl) G.repr boot_repr (pa_cons (pe_op (lFloordiv (K := K) D.T D.fd (hr.mono (by decide)) (passes_call (takes_of rfl rfl rfl rfl) (fun _ _ _ _ h => h))) (pv 6) (pv 7)) pa_nil)) (pe_callB (cRepr hgd hu) (by rfl) G.repr boot_repr (pa_cons (pv 8) pa_nil)) (nomark _)) (pss_one (ps_ret pe_bl)) pss_nil)
      (pss_cons (ps_set (i := 9) scRest.nd rfl (Or.inl rfl) (pe_op (lMod (K := K) D.T D.md (hr.mono (by decide)) (passes_call (takes_of rfl rfl rfl rfl) (fun _ _ _ _ h => h))) (pv 6) (pv 7)))
      (pss_cons (ps_if (PW.pt (pw_or (pt_not (pt_val (pe_callB cIsi (by rfl) G.isinstance boot_isinstance (pa_cons (pv 9) (pa_cons (pe_glob (v := .ref C) (by rfl) D.gC rfl) pa_nil))))) (pw_or1 (pt_cmpR (cNe (K := K) D.T D.eq D.ne (hr.mono (by decide)) (passes_call (takes_of rfl rfl rfl rfl) (fun _ _ _ _ h => h))) (pv 9) (pe_op (lSub (K := K) D.T D.sub (hr.mono (by decide)) (passes_call (takes_of rfl rfl rfl rfl) (fun _ _ _ _ h => h))) (pv 6) (pe_op (lMul (K := K) D.T D.mul (hr.mono (by decide)) (passes_call (takes_of rfl rfl rfl rfl) (fun _ _ _ _ h => h))) (pv 7) (pv 8))) (nomark _))))) (pss_one (ps_ret pe_bl)) pss_nil)
      (pss_one (ps_ret (pe_ifExp (pt_cmpR oGt (pv 4) pe_int (nomark _)) (pe_and (pe_cmpR (cGtE (K := K) D.ge (hr.mono (by decide)) (passes_call (takes_of rfl rfl rfl rfl) (fun _ _ _ _ h => h))) (pv 9) pe_int (nomark _)) (pe_one (pe_cmpR (cLt (K := K) D.lt (hr.mono (by decide)) (passes_call (takes_of rfl rfl rfl rfl) (fun _ _ _ _ h => h))) (pv 9) (pv 7) (nomark _)))) (pe_and (pe_cmpR (cLtE (K := K) D.le (hr.mono (by decide)) (passes_call (takes_of rfl rfl rfl rfl) (fun _ _ _ _ h => h))) (pv 9) pe_int (nomark _)) (pe_one (pe_cmpR (cGt (K := K) D.gt (hr.mono (by decide)) (passes_call (takes_of rfl rfl rfl rfl) (fun _ _ _ _ h => h))) (pv 9) (pv 7) (nomark _))))))))))))), ?_⟩
    have sa := nn_sm na
    have sb := nn_sm nb
    have sc := nn_sm nc
    have sd := nn_sm nd
    have hbB := sm_big sb
    have hdB := sm_big sd
    have nt1 : nn (lowT a b) := Nat.lt_of_le_of_lt (lowT_abs hb) na
    have nb1 : nn (lowB a b) := Nat.lt_of_le_of_lt (lowB_abs hb) nb
    have nt2 : nn (lowT c d) := Nat.lt_of_le_of_lt (lowT_abs hd) nc
    have nb2 : nn (lowB c d) := Nat.lt_of_le_of_lt (lowB_abs hd) nd
    have st1 := nn_sm nt1
    have sb1 := nn_sm nb1
    have st2 := nn_sm nt2
    have sb2 := nn_sm nb2
    have p1B := lowB_pos (t := a) hb
    have p2B := lowB_pos (t := c) hd
    have z1 := pos_ne p1B
    have z2 := pos_ne p2B
    have zt2 : lowT c d ≠ 0 := fun e => hc ((low_zero hd).mp e)
    try simp only [tSeq, tIfS, tAsg, tRet, tRetN, tDrop, tOp, tUn, tC, tCB, tCons, tNil, gName, gSub, gUnpU, tTest, tB, tNext, tAnd, tOr, tNot, tAndV, tOrV, tNotV, tIf, tLst, tTup, tPar, tPar3, tFn, tMkU, tMtU, tFldU, tSetF, tFmtU, tChain, tSl, tPart, L2.start, List.map_cons, List.map_nil, List.length_cons, List.length_nil, Nat.reduceAdd, Nat.reduceSub, List.reduceReplicate, List.cons_append, List.nil_append, e_v0, e_v1, e_v2, e_v3, e_v4, e_vs, e_set0, e_setS, b_2i, b_int, b_intb, b_abs, e_bl, b_if, b_ff, b_tt, b_un, b_fmti, b_fmts, b_js, b_jsn, b_jsc, b_booli, b_boolb, b_gcons, b_gnil, cxK, true_and, if_true, if_false, Bool.false_eq_true, Bool.not_true, Bool.not_false, exists_eq_left', exists_eq_left]
    refine s_ixT g1 at0 ?_
    refine s_ixT g1 at1 ?_
    refine ⟨a, b, rfl, hb, hbB, fun q1 H1 _ x1 e1 => ?_⟩
    refine s_ixT (x1.at g2) at0 ?_
    refine s_ixT (x1.at g2) at1 ?_
    refine ⟨c, d, rfl, hd, hdB, fun q2 H2 _ x2 e2 => ?_⟩
    refine ⟨by decide, fun p3 n3 => ?_⟩
    refine s_unp upd_at rfl ?_
    try simp only [tSeq, tIfS, tAsg, tRet, tRetN, tDrop, tOp, tUn, tC, tCB, tCons, tNil, gName, gSub, gUnpU, tTest, tB, tNext, tAnd, tOr, tNot, tAndV, tOrV, tNotV, tIf, tLst, tTup, tPar, tPar3, tFn, tMkU, tMtU, tFldU, tSetF, tFmtU, tChain, tSl, tPart, L2.start, List.map_cons, List.map_nil, List.length_cons, List.length_nil, Nat.reduceAdd, Nat.reduceSub, List.reduceReplicate, List.cons_append, List.nil_append, e_v0, e_v1, e_v2, e_v3, e_v4, e_vs, e_set0, e_setS, b_2i, b_int, b_intb, b_abs, e_bl, b_if, b_ff, b_tt, b_un, b_fmti, b_fmts, b_js, b_jsn, b_jsc, b_booli, b_boolb, b_gcons, b_gnil, cxK, true_and, if_true, if_false, Bool.false_eq_true, Bool.not_true, Bool.not_false, exists_eq_left', exists_eq_left]
    refine s_unp (by (repeat (first | assumption | exact upd_at | refine g_old (by assumption) ?_ | refine Ext.at (by assumption) ?_))) rfl ?_
    try simp only [tSeq, tIfS, tAsg, tRet, tRetN, tDrop, tOp, tUn, tC, tCB, tCons, tNil, gName, gSub, gUnpU, tTest, tB, tNext, tAnd, tOr, tNot, tAndV, tOrV, tNotV, tIf, tLst, tTup, tPar, tPar3, tFn, tMkU, tMtU, tFldU, tSetF, tFmtU, tChain, tSl, tPart, L2.start, List.map_cons, List.map_nil, List.length_cons, List.length_nil, Nat.reduceAdd, Nat.reduceSub, List.reduceReplicate, List.cons_append, List.nil_append, e_v0, e_v1, e_v2, e_v3, e_v4, e_vs, e_set0, e_setS, b_2i, b_int, b_intb, b_abs, e_bl, b_if, b_ff, b_tt, b_un, b_fmti, b_fmts, b_js, b_jsn, b_jsc, b_booli, b_boolb, b_gcons, b_gnil, cxK, true_and, if_true, if_false, Bool.false_eq_true, Bool.not_true, Bool.not_false, exists_eq_left', exists_eq_left]
    refine s_unp (by (repeat (first | assumption | exact upd_at | refine g_old (by assumption) ?_ | refine Ext.at (by assumption) ?_))) rfl ?_
    try simp only [tSeq, tIfS, tAsg, tRet, tRetN, tDrop, tOp, tUn, tC, tCB, tCons, tNil, gName, gSub, gUnpU, tTest, tB, tNext, tAnd, tOr, tNot, tAndV, tOrV, tNotV, tIf, tLst, tTup, tPar, tPar3, tFn, tMkU, tMtU, tFldU, tSetF, tFmtU, tChain, tSl, tPart, L2.start, List.map_cons, List.map_nil, List.length_cons, List.length_nil, Nat.reduceAdd, Nat.reduceSub, List.reduceReplicate, List.cons_append, List.nil_append, e_v0, e_v1, e_v2, e_v3, e_v4, e_vs, e_set0, e_setS, b_2i, b_int, b_intb, b_abs, e_bl, b_if, b_ff, b_tt, b_un, b_fmti, b_fmts, b_js, b_jsn, b_jsc, b_booli, b_boolb, b_gcons, b_gnil, cxK, true_and, if_true, if_false, Bool.false_eq_true, Bool.not_true, Bool.not_false, exists_eq_left', exists_eq_left]
    refine s_ixT (by (repeat (first | assumption | exact upd_at | refine g_old (by assumption) ?_ | refine Ext.at (by assumption) ?_))) at0 ?_
    refine s_ixT (by (repeat (first | assumption | exact upd_at | refine g_old (by assumption) ?_ | refine Ext.at (by assumption) ?_))) at1 ?_
    refine s_mkRat (.inl rfl) hb hbB (fun A1 d1 H3 _ r1 x3 => ?_)
    have g2' : H3 p2 = some (.tup [.int c, .int d]) := by (repeat (first | assumption | exact upd_at | refine g_old (by assumption) ?_ | refine Ext.at (by assumption) ?_))
    refine s_ixT g2' at0 ?_
    refine s_ixT g2' at1 ?_
    refine s_mkRat (.inl rfl) hd hdB (fun A2 d2 H4 _ r2 x4 => ?_)
    have r1' := x4.at r1
    have x04 : Ext H H4 := x1.trans (x2.trans ((Ext.upd n3).trans (x3.trans x4)))
    try simp only [tSeq, tIfS, tAsg, tRet, tRetN, tDrop, tOp, tUn, tC, tCB, tCons, tNil, gName, gSub, gUnpU, tTest, tB, tNext, tAnd, tOr, tNot, tAndV, tOrV, tNotV, tIf, tLst, tTup, tPar, tPar3, tFn, tMkU, tMtU, tFldU, tSetF, tFmtU, tChain, tSl, tPart, L2.start, List.map_cons, List.map_nil, List.length_cons, List.length_nil, Nat.reduceAdd, Nat.reduceSub, List.reduceReplicate, List.cons_append, List.nil_append, e_v0, e_v1, e_v2, e_v3, e_v4, e_vs, e_set0, e_setS, b_2i, b_int, b_intb, b_abs, e_bl, b_if, b_ff, b_tt, b_un, b_fmti, b_fmts, b_js, b_jsn, b_jsc, b_booli, b_boolb, b_gcons, b_gnil, cxK, true_and, if_true, if_false, Bool.false_eq_true, Bool.not_true, Bool.not_false, exists_eq_left', exists_eq_left]
    refine ⟨_, _, rfl, ?_⟩
    try simp only [tSeq, tIfS, tAsg, tRet, tRetN, tDrop, tOp, tUn, tC, tCB, tCons, tNil, gName, gSub, gUnpU, tTest, tB, tNext, tAnd, tOr, tNot, tAndV, tOrV, tNotV, tIf, tLst, tTup, tPar, tPar3, tFn, tMkU, tMtU, tFldU, tSetF, tFmtU, tChain, tSl, tPart, L2.start, List.map_cons, List.map_nil, List.length_cons, List.length_nil, Nat.reduceAdd, Nat.reduceSub, List.reduceReplicate, List.cons_append, List.nil_append, e_v0, e_v1, e_v2, e_v3, e_v4, e_vs, e_set0, e_setS, b_2i, b_int, b_intb, b_abs, e_bl, b_if, b_ff, b_tt, b_un, b_fmti, b_fmts, b_js, b_jsn, b_jsc, b_booli, b_boolb, b_gcons, b_gnil, cxK, true_and, if_true, if_false, Bool.false_eq_true, Bool.not_true, Bool.not_false, exists_eq_left', exists_eq_left]
    have nW : ((lowT a b * lowB c d).fdiv (lowB a b * lowT c d)).natAbs < 2 ^ 600 := Nat.lt_of_le_of_lt (fdiv_abs _ _) (mul_pow nt1 nb2)
    refine ⟨cmulB st1 sb2, cmulB sb1 st2, cfd (Int.mul_ne_zero z1 zt2) (mul_pow sb1 st2), ?_⟩
    try simp only [tSeq, tIfS, tAsg, tRet, tRetN, tDrop, tOp, tUn, tC, tCB, tCons, tNil, gName, gSub, gUnpU, tTest, tB, tNext, tAnd, tOr, tNot, tAndV, tOrV, tNotV, tIf, tLst, tTup, tPar, tPar3, tFn, tMkU, tMtU, tFldU, tSetF, tFmtU, tChain, tSl, tPart, L2.start, List.map_cons, List.map_nil, List.length_cons, List.length_nil, Nat.reduceAdd, Nat.reduceSub, List.reduceReplicate, List.cons_append, List.nil_append, e_v0, e_v1, e_v2, e_v3, e_v4, e_vs, e_set0, e_setS, b_2i, b_int, b_intb, b_abs, e_bl, b_if, b_ff, b_tt, b_un, b_fmti, b_fmts, b_js, b_jsn, b_jsc, b_booli, b_boolb, b_gcons, b_gnil, cxK, true_and, if_true, if_false, Bool.false_eq_true, Bool.not_true, Bool.not_false, exists_eq_left', exists_eq_left]
    refine ⟨s_ins r1', numT_own D.T r2, A1, d1, _, _, _, _, _, rfl, r1', num_rat r2, zt2, z1, st1, sb1, st2, sb2, fun H5 x5 => ?_⟩
    refine s_reprI (nn_log nW (by decide)) ?_
    refine s_reprI (nn_log nW (by decide)) ?_
    refine ⟨rfl, ?_⟩
    rw [decide_eq_true rfl]
    try simp only [tSeq, tIfS, tAsg, tRet, tRetN, tDrop, tOp, tUn, tC, tCB, tCons, tNil, gName, gSub, gUnpU, tTest, tB, tNext, tAnd, tOr, tNot, tAndV, tOrV, tNotV, tIf, tLst, tTup, tPar, tPar3, tFn, tMkU, tMtU, tFldU, tSetF, tFmtU, tChain, tSl, tPart, L2.start, List.map_cons, List.map_nil, List.length_cons, List.length_nil, Nat.reduceAdd, Nat.reduceSub, List.reduceReplicate, List.cons_append, List.nil_append, e_v0, e_v1, e_v2, e_v3, e_v4, e_vs, e_set0, e_setS, b_2i, b_int, b_intb, b_abs, e_bl, b_if, b_ff, b_tt, b_un, b_fmti, b_fmts, b_js, b_jsn, b_jsc, b_booli, b_boolb, b_gcons, b_gnil, cxK, true_and, if_true, if_false, Bool.false_eq_true, Bool.not_true, Bool.not_false, exists_eq_left', exists_eq_left]
    have r1a := x5.at r1'
    have r2a := x5.at r2
    refine ⟨s_ins r1a, numT_own D.T r2a, A1, d1, _, _, _, _, _, rfl, r1a, num_rat r2a, zt2, z1, z2, st1, sb1, st2, sb2, fun A3 d3 H6 x6 r3 => ?_⟩
    try simp only [tSeq, tIfS, tAsg, tRet, tRetN, tDrop, tOp, tUn, tC, tCB, tCons, tNil, gName, gSub, gUnpU, tTest, tB, tNext, tAnd, tOr, tNot, tAndV, tOrV, tNotV, tIf, tLst, tTup, tPar, tPar3, tFn, tMkU, tMtU, tFldU, tSetF, tFmtU, tChain, tSl, tPart, L2.start, List.map_cons, List.map_nil, List.length_cons, List.length_nil, Nat.reduceAdd, Nat.reduceSub, List.reduceReplicate, List.cons_append, List.nil_append, e_v0, e_v1, e_v2, e_v3, e_v4, e_vs, e_set0, e_setS, b_2i, b_int, b_intb, b_abs, e_bl, b_if, b_ff, b_tt, b_un, b_fmti, b_fmts, b_js, b_jsn, b_jsc, b_booli, b_boolb, b_gcons, b_gnil, cxK, true_and, if_true, if_false, Bool.false_eq_true, Bool.not_true, Bool.not_false, exists_eq_left', exists_eq_left]
    have zBD := Int.mul_ne_zero z1 z2
    have sT3 : sm (lowT (modT (lowT a b) (lowB a b) (lowT c d) (lowB c d)) (lowB a b * lowB c d)) := by
      refine up_pow (Nat.lt_of_le_of_lt (lowT_abs zBD) ?_) (show 600 ≤ 1000 by decide)
      rw [modT_eq]
      exact Nat.lt_trans (fmod_abs (Int.mul_ne_zero z1 zt2)) (mul_pow nb1 nt2)
    have sB3 : sm (lowB (modT (lowT a b) (lowB a b) (lowT c d) (lowB c d)) (lowB a b * lowB c d)) := up_pow (Nat.lt_of_le_of_lt (lowB_abs zBD) (mul_pow nb1 nb2)) (show 600 ≤ 1000 by decide)
    have sW : sm ((lowT a b * lowB c d).fdiv (lowB a b * lowT c d)) := up_pow nW (by decide)
    have z21 : lowB c d * 1 ≠ 0 := by rw [Int.mul_one]; exact z2
    have sU : sm (lowT (lowT c d * (lowT a b * lowB c d).fdiv (lowB a b * lowT c d)) (lowB c d * 1)) := up_pow (Nat.lt_of_le_of_lt (lowT_abs z21) (mul_pow nt2 nW)) (show 300 + 600 ≤ 1000 by decide)
    have sV : sm (lowB (lowT c d * (lowT a b * lowB c d).fdiv (lowB a b * lowT c d)) (lowB c d * 1)) := by
      refine Nat.lt_of_le_of_lt (lowB_abs z21) ?_
      rw [Int.mul_one]; exact sb2
    refine s_isi rfl (t_ins r3 D.T.ins D.T.k_self) ?_
    try simp only [tSeq, tIfS, tAsg, tRet, tRetN, tDrop, tOp, tUn, tC, tCB, tCons, tNil, gName, gSub, gUnpU, tTest, tB, tNext, tAnd, tOr, tNot, tAndV, tOrV, tNotV, tIf, tLst, tTup, tPar, tPar3, tFn, tMkU, tMtU, tFldU, tSetF, tFmtU, tChain, tSl, tPart, L2.start, List.map_cons, List.map_nil, List.length_cons, List.length_nil, Nat.reduceAdd, Nat.reduceSub, List.reduceReplicate, List.cons_append, List.nil_append, e_v0, e_v1, e_v2, e_v3, e_v4, e_vs, e_set0, e_setS, b_2i, b_int, b_intb, b_abs, e_bl, b_if, b_ff, b_tt, b_un, b_fmti, b_fmts, b_js, b_jsn, b_jsc, b_booli, b_boolb, b_gcons, b_gnil, cxK, true_and, if_true, if_false, Bool.false_eq_true, Bool.not_true, Bool.not_false, exists_eq_left', exists_eq_left]
    have r1b := x6.at r1a
    have r2b := x6.at r2a
    refine ⟨s_ins r2b, numT_mul D.T, A2, d2, _, _, _, _, _, rfl, r2b, num_int, z21, st2, sb2, sW, sm_one, fun A4 d4 H7 x7 r4 => ?_⟩
    have r1c := x7.at r1b
    have r3c := x7.at r3
    refine ⟨s_ins r1c, numT_own D.T r4, A1, d1, _, _, _, _, _, rfl, r1c, num_rat r4, Int.mul_ne_zero z1 (pos_ne (lowB_pos z21)), st1, sb1, sU, sV, fun A5 d5 H8 x8 r5 => ?_⟩
    have r3d := x8.at r3c
    refine ⟨s_ins r3d, ty_own D.T r5, A3, d3, _, _, _, rfl, r3d, .inl ⟨_, _, d5, A5, rfl, r5, _, rfl, ?_⟩⟩
    have ms := mod_sub (a := a) (b := b) (c := c) (d := d) hb hd _ rfl
    simp only [ms.1, ms.2, beq_self_eq_true, Bool.and_self, tSeq, tIfS, tAsg, tRet, tRetN, tDrop, tOp, tUn, tC, tCB, tCons, tNil, gName, gSub, gUnpU, tTest, tB, tNext, tAnd, tOr, tNot, tAndV, tOrV, tNotV, tIf, tLst, tTup, tPar, tPar3, tFn, tMkU, tMtU, tFldU, tSetF, tFmtU, tChain, tSl, tPart, L2.start, List.map_cons, List.map_nil, List.length_cons, List.length_nil, Nat.reduceAdd, Nat.reduceSub, List.reduceReplicate, List.cons_append, List.nil_append, e_v0, e_v1, e_v2, e_v3, e_v4, e_vs, e_set0, e_setS, b_2i, b_int, b_intb, b_abs, e_bl, b_if, b_ff, b_tt, b_un, b_fmti, b_fmts, b_js, b_jsn, b_jsc, b_booli, b_boolb, b_gcons, b_gnil, cxK, true_and, if_true, if_false, Bool.false_eq_true, Bool.not_true, Bool.not_false, exists_eq_left', exists_eq_left]
    have r2d := x8.at (x7.at r2b)
    have x08 : Ext H H8 := x04.trans (x5.trans (x6.trans (x7.trans x8)))
    refine ite2 (fun h0 => ?_) (fun h0 => ?_)
    · have mp := mod_pos (A := lowT a b) p1B p2B h0
      refine ⟨s_ins r3d, ty_int D.T, A3, d3, _, _, _, _, _, rfl, r3d, num_int, sT3, sB3, by unfold sm; decide +kernel, sm_one, fun H9 x9 => ?_⟩
      have e1 : decide (0 * lowB (modT (lowT a b) (lowB a b) (lowT c d) (lowB c d)) (lowB a b * lowB c d) ≤ lowT (modT (lowT a b) (lowB a b) (lowT c d) (lowB c d)) (lowB a b * lowB c d) * 1) = true := by
        rw [Int.zero_mul, Int.mul_one]; exact decide_eq_true mp.1
      simp only [e1, tSeq, tIfS, tAsg, tRet, tRetN, tDrop, tOp, tUn, tC, tCB, tCons, tNil, gName, gSub, gUnpU, tTest, tB, tNext, tAnd, tOr, tNot, tAndV, tOrV, tNotV, tIf, tLst, tTup, tPar, tPar3, tFn, tMkU, tMtU, tFldU, tSetF, tFmtU, tChain, tSl, tPart, L2.start, List.map_cons, List.map_nil, List.length_cons, List.length_nil, Nat.reduceAdd, Nat.reduceSub, List.reduceReplicate, List.cons_append, List.nil_append, e_v0, e_v1, e_v2, e_v3, e_v4, e_vs, e_set0, e_setS, b_2i, b_int, b_intb, b_abs, e_bl, b_if, b_ff, b_tt, b_un, b_fmti, b_fmts, b_js, b_jsn, b_jsc, b_booli, b_boolb, b_gcons, b_gnil, cxK, true_and, if_true, if_false, Bool.false_eq_true, Bool.not_true, Bool.not_false, exists_eq_left', exists_eq_left]
      refine ⟨s_ins (x9.at r3d), ty_own D.T (x9.at r2d), A3, d3, _, _, _, _, _, rfl, x9.at r3d, num_rat (x9.at r2d), sT3, sB3, st2, sb2, fun H10 x10 => ?_⟩
      simp only [decide_eq_true mp.2]
      exact q _ (x08.trans (x9.trans x10))
    · have hC : lowT c d < 0 := by omega
      have mp := mod_neg (A := lowT a b) p1B p2B hC
      refine ⟨s_ins r3d, ty_int D.T, A3, d3, _, _, _, _, _, rfl, r3d, num_int, sT3, sB3, by unfold sm; decide +kernel, sm_one, fun H9 x9 => ?_⟩
      have e1 : decide (lowT (modT (lowT a b) (lowB a b) (lowT c d) (lowB c d)) (lowB a b * lowB c d) * 1 ≤ 0 * lowB (modT (lowT a b) (lowB a b) (lowT c d) (lowB c d)) (lowB a b * lowB c d)) = true := by
        rw [Int.zero_mul, Int.mul_one]; exact decide_eq_true mp.1
      simp only [e1, tSeq, tIfS, tAsg, tRet, tRetN, tDrop, tOp, tUn, tC, tCB, tCons, tNil, gName, gSub, gUnpU, tTest, tB, tNext, tAnd, tOr, tNot, tAndV, tOrV, tNotV, tIf, tLst, tTup, tPar, tPar3, tFn, tMkU, tMtU, tFldU, tSetF, tFmtU, tChain, tSl, tPart, L2.start, List.map_cons, List.map_nil, List.length_cons, List.length_nil, Nat.reduceAdd, Nat.reduceSub, List.reduceReplicate, List.cons_append, List.nil_append, e_v0, e_v1, e_v2, e_v3, e_v4, e_vs, e_set0, e_setS, b_2i, b_int, b_intb, b_abs, e_bl, b_if, b_ff, b_tt, b_un, b_fmti, b_fmts, b_js, b_jsn, b_jsc, b_booli, b_boolb, b_gcons, b_gnil, cxK, true_and, if_true, if_false, Bool.false_eq_true, Bool.not_true, Bool.not_false, exists_eq_left', exists_eq_left]
      refine ⟨s_ins (x9.at r3d), ty_own D.T (x9.at r2d), A3, d3, _, _, _, _, _, rfl, x9.at r3d, num_rat (x9.at r2d), sT3, sB3, st2, sb2, fun H10 x10 => ?_⟩
      simp only [decide_eq_true mp.2]
      exact q _ (x08.trans (x9.trans x10))
/-! ### in place -/
def spBnd (C : Addr) : Sp := fun vs H Q _ => ∃ way a dx t1 b1 a2 dx2 t2 b2, vs = [.int way, .ref a, .ref a2] ∧ H a = some (.ins C dx (ratF t1 b1)) ∧ H a2 = some (.ins C dx2 (ratF t2 b2)) ∧ b1 ≠ 0 ∧ b2 ≠ 0 ∧ t2 ≠ 0 ∧ sm t1 ∧ sm b1 ∧ sm t2 ∧ sm b2 ∧
  ∀ l v H', H l = none → Ext H H' → ((way = 0 ∧ v = .int ((t1 * b2).fdiv (b1 * t2))) ∨ (way ≠ 0 ∧ ∃ a' dx', v = .ref a' ∧ H' a' = some (.ins C dx' (ratF (lowT (modT t1 b1 t2 b2) (b1 * b2)) (lowB (modT t1 b1 t2 b2) (b1 * b2)))))) → H' l = some (.lst [v, .ref a]) → Q (.ref l) H'
abbrev sBnd : Stmt := topS 26
theorem scBnd : FnScope ["_law_way", "_law_made", "_law_more", "_law_found", "_law_kept"] ["_law_way", "_law_made", "_law_more"] (defScope sBnd) := ⟨rfl, rfl, rfl, by decide +kernel, rfl, by decide +kernel, by decide +kernel⟩
theorem ok_bnd {f : Addr} {fd : FuncData} (F : FunS K "_law_bound" "_law_bound" sBnd [] f fd) (D : R8 P w K mg base C) : FnOk P w K mg base (L2.CX P w) 5 f fd ["_law_way", "_law_made", "_law_more"] (spBnd C) := by
  refine F.ok scBnd (fun vs H Q E h => ?_) (fun cdv A outer s H vs Q E hr h => ?_)
  · obtain ⟨way, a, dx, t1, b1, a2, dx2, t2, b2, rfl, _⟩ := h
    rfl
  · obtain ⟨way, a, dx, t1, b1, a2, dx2, t2, b2, rfl, ha, ha2, h1, h2, h3, m1, m2, m3, m4, q⟩ := h
    have hu := hr.units
    refine ⟨_, (pss_cons (ps_par (i := 3) (j := 4) rfl scBnd.nd rfl rfl (by decide) rfl rfl (pa_cons (pv 1) (pa_cons (pv 1) pa_nil)) (by rfl))
      (pss_cons (ps_if (pt_cmpR (oEq hu) (pv 0) pe_int (nomark _)) (pss_one (ps_aug (i := 3) scBnd.nd rfl (Or.inl rfl) (pv 2) (iFloordiv (K := K) D.T D.fd D.ifd (hr.mono (by decide)) (passes_call (takes_of rfl rfl rfl rfl) (fun _ _ _ _ h => h))))) (pss_one (ps_aug (i := 3) scBnd.nd rfl (Or.inl rfl) (pv 2) (iMod (K := K) D.T D.md D.imd (hr.mono (by decide)) (passes_call (takes_of rfl rfl rfl rfl) (fun _ _ _ _ h => h))))))
      (pss_one (ps_ret (pe_lst (pa_cons (pv 3) (pa_cons (pv 4) pa_nil))))))), ?_⟩
    simp only [tSeq, tIfS, tAsg, tRet, tRetN, tDrop, tOp, tUn, tC, tCB, tCons, tNil, gName, gSub, gUnpU, tTest, tB, tNext, tAnd, tOr, tNot, tAndV, tOrV, tNotV, tIf, tLst, tTup, tPar, tPar3, tFn, tMkU, tMtU, tFldU, tSetF, tFmtU, tChain, tSl, tPart, L2.start, List.map_cons, List.map_nil, List.length_cons, List.length_nil, Nat.reduceAdd, Nat.reduceSub, List.reduceReplicate, List.cons_append, List.nil_append, tAug, e_v0, e_v1, e_v2, e_v3, e_v4, e_vs, e_set0, e_setS, b_2i, b_int, b_intb, b_abs, e_bl, b_if, b_ff, b_tt, b_un, b_fmti, b_fmts, b_js, b_jsn, b_jsc, b_booli, b_boolb, b_gcons, b_gnil, cxK, true_and, if_true, if_false, Bool.false_eq_true, Bool.not_true, Bool.not_false, exists_eq_left', exists_eq_left]
    refine ⟨_, _, rfl, ?_⟩
    refine s_eq d_int d_int ?_
    simp only [e_v0, e_v1, e_v2, e_v3, e_v4, e_vs, e_set0, e_setS, b_2i, b_int, b_intb, b_abs, e_bl, b_if, b_ff, b_tt, b_un, b_fmti, b_fmts, b_js, b_jsn, b_jsc, b_booli, b_boolb, b_gcons, b_gnil, cxK, true_and, if_true, if_false, Bool.false_eq_true, Bool.not_true, Bool.not_false, exists_eq_left', exists_eq_left, PyData.eqv]
    by_cases w0 : way = 0
    · have e0 : (way == 0) = true := by simpa using w0
      simp only [e0, e_v0, e_v1, e_v2, e_v3, e_v4, e_vs, e_set0, e_setS, b_2i, b_int, b_intb, b_abs, e_bl, b_if, b_ff, b_tt, b_un, b_fmti, b_fmts, b_js, b_jsn, b_jsc, b_booli, b_boolb, b_gcons, b_gnil, cxK, true_and, if_true, if_false, Bool.false_eq_true, Bool.not_true, Bool.not_false, exists_eq_left', exists_eq_left]
      refine ⟨_, rfl, s_ins ha, numT_own D.T ha2, a, dx, _, t1, b1, t2, b2, rfl, ha, num_rat ha2, h3, h1, m1, m2, m3, m4, fun H1 x1 => ?_⟩
      exact ⟨by show 2 ≤ sizeLine; decide, fun p np => q p _ _ (x1.free np) (x1.trans (Ext.upd np)) (.inl ⟨w0, rfl⟩) upd_at⟩
    · have e0 : (way == 0) = false := by simpa using w0
      simp only [e0, e_v0, e_v1, e_v2, e_v3, e_v4, e_vs, e_set0, e_setS, b_2i, b_int, b_intb, b_abs, e_bl, b_if, b_ff, b_tt, b_un, b_fmti, b_fmts, b_js, b_jsn, b_jsc, b_booli, b_boolb, b_gcons, b_gnil, cxK, true_and, if_true, if_false, Bool.false_eq_true, Bool.not_true, Bool.not_false, exists_eq_left', exists_eq_left]
      refine ⟨_, rfl, s_ins ha, numT_own D.T ha2, a, dx, _, t1, b1, t2, b2, rfl, ha, num_rat ha2, h3, h1, h2, m1, m2, m3, m4, fun a' dx' H1 x1 g1 => ?_⟩
      exact ⟨by show 2 ≤ sizeLine; decide, fun p np => q p _ _ (x1.free np) (x1.trans (Ext.upd np)) (.inr ⟨w0, a', dx', rfl, g_old np g1⟩) upd_at⟩
end
end Wp

set_option maxHeartbeats 4000000
namespace Wp
open PySem PySem.W L2 PyProof.Rows
section
variable {P : Program} {w : World} {K : PySem.W.Frag} {mg : Str → Option Value} {base : Heap} {C : Addr}
theorem s_forR {ta : TA} {g : TG} {tb : TS} {D : Ends} {σ : L2.St} {H : Hp} (n : Nat) (Pv : Nat → L2.St → Hp → Prop) (h0 : Pv 0 σ H)
    (hs : ∀ i σ H, i < n → Pv i σ H → g (.int i) σ H fun σ2 H2 => tb { D with nx := Pv (i + 1), ct := Pv (i + 1), bk := D.nx } σ2 H2) (hd : ∀ σ H, Pv n σ H → D.nx σ H) (hn : n < 1000000 := by decide) (hta : ∀ K : List V → Hp → Prop, ta σ H K = K [.int (n : Int)] H := by intro; rfl) : tFor (iRng1 ta) g tb D σ H := by
  show ta σ H _
  rw [hta]
  refine ⟨n, rfl, by omega, by omega, ?_⟩
  refine for_range Pv h0 (fun i σ H hi p => ?_) (fun σ H p => hd σ H (by simpa using p))
  have e : ((0 : Int) + i) = (i : Int) := by omega
  rw [e]
  exact hs i σ H (by simpa using hi) p
theorem if_join2 {p : Bool} {dp : Decidable (p = true)} {Pre A R : Addr → Hp → Prop} (h : ∀ t H, Pre t H → R t H) (ha : p = true → (∀ t H, Pre t H → R t H) → ∀ t H, Pre t H → A t H) : ∀ t H, Pre t H → @ite _ (p = true) dp (A t H) (R t H) := by
  intro t H x
  split
  · rename_i q; exact ha q h t H x
  · exact h t H x
theorem if_joinO {p : Bool} {dp : Decidable (p = true)} {H0 : Hp} {A R : Option V → Hp → Prop} (h : ∀ o H, Ext H0 H → R o H) (ha : p = true → (∀ o H, Ext H0 H → R o H) → ∀ o H, Ext H0 H → A o H) : ∀ o H, Ext H0 H → @ite _ (p = true) dp (A o H) (R o H) := by
  intro o H x
  split
  · rename_i q; exact ha q h o H x
  · exact h o H x
/-! ### values that are equal by Ratio's own == -/
def RatE (C : Addr) (a b : Addr) (H : Hp) : Prop := ∃ dx dy t l, H a = some (.ins C dx (ratF t l)) ∧ H b = some (.ins C dy (ratF t l))
def DV (C : Addr) : L2.Eqv := fun x y H => L2.DFlat x y H ∨ L2.DIns C (RatE C) x y H
theorem mon_DV : L2.Mon (DV C) := L2.Mon.or L2.mon_flat (L2.mon_ins fun a b H H' e ⟨dx, dy, t, l, h1, h2⟩ => ⟨dx, dy, t, l, e _ _ h1, e _ _ h2⟩)
theorem eqG_DV {X : Cx} {E : XK} (h : ∃ f fd, findIn X.K (.ref C) "__eq__" = some (some (.ref f)) ∧ isFn X.K (.ref f) = true ∧ FnOk X.prog X.w X.K X.mg X.base (L2.CX X.prog X.w) 2 f fd ["self", "other"] (spEq C) ∧ Binds X.K fd ["self", "other"] []) (hx : Passes (L2.CX X.prog X.w) X E) : L2.EqG X 2 (DV C) := by
  obtain ⟨f, fd, h1, h2, F, hb⟩ := h
  refine L2.EqG.or (L2.EqG.mono L2.eqG_flat (by decide)) (L2.eqG_ins (F.imp ?_) h1 h2 hb hx)
  rintro vs H Q E ⟨a, b, rfl, ⟨dx, dy, t, l, g1, g2⟩, q⟩
  refine ⟨a, dx, .ref b, t, l, rfl, g1, .inl ⟨t, l, dy, b, rfl, g2, ?_⟩⟩
  simp only [beq_self_eq_true, Bool.and_self]
  exact q H (fun _ _ h => h)
theorem dv_int {i : Int} {H : Hp} : DV C (.int i) (.int i) H := .inl ⟨rfl, rfl, by simp [eqV]⟩
theorem dv_rat {a b dx dy : Addr} {t l : Int} {H : Hp} (h1 : H a = some (.ins C dx (ratF t l))) (h2 : H b = some (.ins C dy (ratF t l))) : DV C (.ref a) (.ref b) H := .inr ⟨a, b, dx, dy, _, _, rfl, rfl, h1, h2, dx, dy, t, l, h1, h2⟩
def spLaw (K : PySem.W.Frag) : Sp := fun vs H Q _ => ∃ (a : Addr) (ns : List Int), vs = [.ref a] ∧ SqL K H a (ns.map V.int) ∧ ns.length ≤ 63 ∧ ∀ H', Q (.bl true) H'
theorem num_nn {i : Int} (h : num i) : nn i := Nat.lt_of_le_of_lt h (by decide +kernel)
theorem num_nn3 {i : Int} (h : num i) : nn (i * 3) := by
  have : (i * 3).natAbs ≤ (10 ^ 58 + 7) * 3 := by rw [Int.natAbs_mul]; exact Nat.mul_le_mul_right 3 h
  exact Nat.lt_of_le_of_lt this (by decide +kernel)
def PreT (p t1 : Addr) (a b n : Int) (t : Addr) (H : Hp) : Prop := ∃ c d, nn c ∧ nn d ∧ d ≠ 0 ∧ H t = some (.tup [.int c, .int d]) ∧ H t1 = some (.tup [.int a, .int b]) ∧ PenX H p n
theorem pen_tup {H : Hp} {p t : Addr} {n : Int} {xs : List V} (h : PenX H p n) (g : H t = some (.tup xs)) : t ≠ p := by
  obtain ⟨l, ns, at_, rest, hp⟩ := h
  intro e
  rw [e, hp.hp] at g
  cases g
abbrev sLaw : Stmt := topS 27
theorem scLaw : FnScope ["_law_script", "_law_pen_here", "_law_turn", "_law_one", "_law_two", "_law_k", "_law_first", "_law_second", "_law_whole", "_law_told", "_law_due", "_law_way", "_law_thing"] ["_law_script"] (defScope sLaw) := ⟨rfl, rfl, rfl, by decide +kernel, rfl, by decide +kernel, by decide +kernel⟩
theorem ok_law {f : Addr} {fd : FuncData} (F : FunS K "law" "law" sLaw [] f fd) (D : R8 P w K mg base C) (gP : GF P w K mg base 1 "_law_pen" (spPen K)) (gA : GF P w K mg base 4 "_law_pair" spPair) (gN : GF P w K mg base 3 "_law_number" spNumber) (gD : GF P w K mg base 1 "_law_draw" spDraw)
    (gO : GG P w K mg base 6 "_law_order_right" spOrder) (gRR : GG P w K mg base 6 "_law_rest_right" spRest) (gB : GF P w K mg base 5 "_law_bound" (spBnd C)) :
    FnG P w K mg base 8 f fd ["_law_script"] (spLaw K) := by
  refine okG F scLaw (fun vs H Q E h => ?_) (fun cdv A outer s H vs Q E hr hgd h => ?_)
  · obtain ⟨a, ns, rfl, _⟩ := h
    rfl
  · obtain ⟨a, ns, rfl, hS, hn, q⟩ := h
    have G := D.G
    have hu := hr.units
    refine ⟨_, (pss_cons (ps_set (i := 1) scLaw.nd rfl (Or.inl rfl) (pe_fn gP (hr.mono (by decide)) (passes_call (takes_of rfl rfl rfl rfl) (fun _ _ _ _ h => h)) (pa_cons (pv 0) pa_nil)))
      (pss_cons (ps_for (passes_of rfl) rfl (pi_range1 (by rfl) G.range (pa_cons pe_int pa_nil)) (pg_name (i := 2) scLaw.nd rfl (Or.inl rfl)) (pss_cons (ps_par (i := 3) (j := 4) rfl scLaw.nd rfl rfl (by decide) rfl rfl (pa_cons (pe_fn gA (hr.mono (by decide)) (passes_call (takes_of rfl rfl rfl rfl) (fun _ _ _ _ h => h)) (pa_cons (pv 1) pa_nil)) (pa_cons (pe_fn gA (hr.mono (by decide)) (passes_call (takes_of rfl rfl rfl rfl) (fun _ _ _ _ h => h)) (pa_cons (pv 1) pa_nil)) pa_nil)) (by rfl))
      (pss_cons (ps_if (pt_cmpR (oEq hu) (pe_fn gD (hr.mono (by decide)) (passes_call (takes_of rfl rfl rfl rfl) (fun _ _ _ _ h => h)) (pa_cons (pv 1) (pa_cons pe_int pa_nil))) pe_int (nomark _)) (pss_one (ps_set (i := 4) scLaw.nd rfl (Or.inl rfl) (pe_tup (pa_cons (pe_op oMul (pe_ix oIx (pv 3) pe_int (fun _ _ => rfl)) pe_int) (pa_cons (pe_op oMul (pe_ix oIx (pv 3) pe_int (fun _ _ => rfl)) pe_int) pa_nil))))) pss_nil)
      (pss_cons (ps_set (i := 5) scLaw.nd rfl (Or.inl rfl) (pe_fn gN (hr.mono (by decide)) (passes_call (takes_of rfl rfl rfl rfl) (fun _ _ _ _ h => h)) (pa_cons (pv 1) pa_nil)))
      (pss_cons (ps_if (PW.pt (pw_or (pt_not (pt_val (pe_gg gO (hr.mono (by decide)) hgd (passes_call (takes_of rfl rfl rfl rfl) (fun _ _ _ _ h => h)) (pa_cons (pv 3) (pa_cons (pv 4) pa_nil))))) (pw_or (pt_not (pt_val (pe_gg gO (hr.mono (by decide)) hgd (passes_call (takes_of rfl rfl rfl rfl) (fun _ _ _ _ h => h)) (pa_cons (pv 4) (pa_cons (pv 3) pa_nil))))) (pw_or1 (pt_not (pt_val (pe_gg gO (hr.mono (by decide)) hgd (passes_call (takes_of rfl rfl rfl rfl) (fun _ _ _ _ h => h)) (pa_cons (pv 3) (pa_cons (pe_tup (pa_cons (pv 5) (pa_cons pe_int pa_nil))) pa_nil))))))))) (pss_one (ps_ret pe_bl)) pss_nil)
      (pss_cons (ps_asg (pe_tup (pa_cons (pe_mk D.gR (hr.mono (by decide)) (passes_call (takes_of rfl rfl rfl rfl) (fun _ _ _ _ h => h)) (pa_cons (pe_ix oIx (pv 3) pe_int (fun _ _ => rfl)) (pa_cons (pe_ix oIx (pv 3) pe_int (fun _ _ => rfl)) pa_nil))) (pa_cons (pe_mk D.gR (hr.mono (by decide)) (passes_call (takes_of rfl rfl rfl rfl) (fun _ _ _ _ h => h)) (pa_cons (pe_ix oIx (pv 4) pe_int (fun _ _ => rfl)) (pa_cons (pe_ix oIx (pv 4) pe_int (fun _ _ => rfl)) pa_nil))) pa_nil))) (pg_unpU (n := 2) rfl (pgs_cons (pg_name (i := 6) scLaw.nd rfl (Or.inr rfl)) (pgs_cons (pg_name (i := 7) scLaw.nd rfl (Or.inr rfl)) pgs_nil))))
      (pss_cons (ps_set (i := 8) scLaw.nd rfl (Or.inl rfl) (pe_mk D.gR (hr.mono (by decide)) (passes_call (takes_of rfl rfl rfl rfl) (fun _ _ _ _ h => h)) (pa_cons (pv 5) pa_nil)))
      (pss_cons (ps_set (i := 9) scLaw.nd rfl (Or.inl rfl) (pe_lst (pa_cons (pe_cmpR (cLt (K := K) D.lt (hr.mono (by decide)) (passes_call (takes_of rfl rfl rfl rfl) (fun _ _ _ _ h => h))) (pv 6) (pv 5) (nomark _)) (pa_cons (pe_cmpR (cLtE (K := K) D.le (hr.mono (by decide)) (passes_call (takes_of rfl rfl rfl rfl) (fun _ _ _ _ h => h))) (pv 6) (pv 5) (nomark _)) (pa_cons (pe_cmpR (cGt (K := K) D.gt (hr.mono (by decide)) (passes_call (takes_of rfl rfl rfl rfl) (fun _ _ _ _ h => h))) (pv 6) (pv 5) (nomark _)) (pa_cons (pe_cmpR (cGtE (K := K) D.ge (hr.mono (by decide)) (passes_call (takes_of rfl rfl rfl rfl) (fun _ _ _ _ h => h))) (pv 6) (pv 5) (nomark _)) pa_nil))))))
      (pss_cons (ps_if (pt_cmpR (oNe hu) (pv 9) (pe_lst (pa_cons (pe_cmpR (cLt (K := K) D.lt (hr.mono (by decide)) (passes_call (takes_of rfl rfl rfl rfl) (fun _ _ _ _ h => h))) (pv 6) (pv 8) (nomark _)) (pa_cons (pe_cmpR (cLtE (K := K) D.le (hr.mono (by decide)) (passes_call (takes_of rfl rfl rfl rfl) (fun _ _ _ _ h => h))) (pv 6) (pv 8) (nomark _)) (pa_cons (pe_cmpR (cGt (K := K) D.gt (hr.mono (by decide)) (passes_call (takes_of rfl rfl rfl rfl) (fun _ _ _ _ h => h))) (pv 6) (pv 8) (nomark _)) (pa_cons (pe_cmpR (cGtE (K := K) D.ge (hr.mono (by decide)) (passes_call (takes_of rfl rfl rfl rfl) (fun _ _ _ _ h => h))) (pv 6) (pv 8) (nomark _)) pa_nil))))) (nomark _)) (pss_one (ps_ret pe_bl)) pss_nil)
      (pss_cons (ps_if (pt_cmpR (oNe hu) (pe_ix oIx (pv 4) pe_int (fun _ _ => rfl)) pe_int (nomark _)) (pss_cons (ps_if (pt_not (pt_val (pe_gg gRR (hr.mono (by decide)) hgd (passes_call (takes_of rfl rfl rfl rfl) (fun _ _ _ _ h => h)) (pa_cons (pv 3) (pa_cons (pv 4) pa_nil))))) (pss_one (ps_ret pe_bl)) pss_nil)
      (pss_cons (ps_set (i := 10) scLaw.nd rfl (Or.inl rfl) (pe_lst (pa_cons (pe_op (lFloordiv (K := K) D.T D.fd (hr.mono (by decide)) (passes_call (takes_of rfl rfl rfl rfl) (fun _ _ _ _ h => h))) (pv 6) (pv 7)) (pa_cons (pe_op (lMod (K := K) D.T D.md (hr.mono (by decide)) (passes_call (takes_of rfl rfl rfl rfl) (fun _ _ _ _ h => h))) (pv 6) (pv 7)) pa_nil))))
      (pss_one (ps_if (pt_cmpR (op_neL (L2.mon_list (mon_DV (C := C))) (L2.eqG_list mon_DV (eqG_DV D.keq (passes_call (takes_of rfl rfl rfl rfl) (fun _ _ _ _ h => h)))) (hr.mono (by decide))) (pe_lc (own := [("_law_way", 11)]) (g := (gName 11)) (tt := tYes) rfl scLaw.nd (pi_range1 (by rfl) G.range (pa_cons pe_int pa_nil)) (blkOk_by (N := ["_law_script", "_law_pen_here", "_law_turn", "_law_one", "_law_two", "_law_k", "_law_first", "_law_second", "_law_whole", "_law_told", "_law_due", "_law_way", "_law_thing"]) (sc := defScope sLaw) (by decide +kernel)) (fun _ _ _ _ _ => (pg_name (i := 11) scLaw.nd rfl (Or.inl rfl))) (fun _ _ _ _ _ => pts_nil) (fun _ _ _ _ _ => (pe_fn gB (hr.mono (by decide)) passL (E := E0) (pa_cons (pv 11) (pa_cons (pv 6) (pa_cons (pv 7) pa_nil)))))) (pe_lc (own := [("_law_thing", 12)]) (g := (gName 12)) (tt := tYes) rfl scLaw.nd (pi_list (pv 10)) (blkOk_by (N := ["_law_script", "_law_pen_here", "_law_turn", "_law_one", "_law_two", "_law_k", "_law_first", "_law_second", "_law_whole", "_law_told", "_law_due", "_law_way", "_law_thing"]) (sc := defScope sLaw) (by decide +kernel)) (fun _ _ _ _ _ => (pg_name (i := 12) scLaw.nd rfl (Or.inl rfl))) (fun _ _ _ _ _ => pts_nil) (fun _ _ _ _ _ => (pe_lst (pa_cons (pv 12) (pa_cons (pv 6) pa_nil))))) (nomark _)) (pss_one (ps_ret pe_bl)) pss_nil)))) pss_nil)
      (pss_cons (ps_if (PW.pt (pw_and (pt_cmpR (oNe hu) (pv 5) pe_int (nomark _)) (pw_and1 (pt_cmpR (op_neL (mon_DV (C := C)) (eqG_DV D.keq (passes_call (takes_of rfl rfl rfl rfl) (fun _ _ _ _ h => h))) (hr.mono (by decide))) (pe_lst (pa_cons (pe_op (lFloordiv (K := K) D.T D.fd (hr.mono (by decide)) (passes_call (takes_of rfl rfl rfl rfl) (fun _ _ _ _ h => h))) (pv 6) (pv 5)) (pa_cons (pe_op (lMod (K := K) D.T D.md (hr.mono (by decide)) (passes_call (takes_of rfl rfl rfl rfl) (fun _ _ _ _ h => h))) (pv 6) (pv 5)) pa_nil))) (pe_lst (pa_cons (pe_op (lFloordiv (K := K) D.T D.fd (hr.mono (by decide)) (passes_call (takes_of rfl rfl rfl rfl) (fun _ _ _ _ h => h))) (pv 6) (pv 8)) (pa_cons (pe_op (lMod (K := K) D.T D.md (hr.mono (by decide)) (passes_call (takes_of rfl rfl rfl rfl) (fun _ _ _ _ h => h))) (pv 6) (pv 8)) pa_nil))) (nomark _))))) (pss_one (ps_ret pe_bl)) pss_nil)
      (pss_one (ps_if (PW.pt (pw_and (pt_cmpR (oNe hu) (pe_ix oIx (pv 3) pe_int (fun _ _ => rfl)) pe_int (nomark _)) (pw_and1 (pt_cmpR (op_neL (mon_DV (C := C)) (eqG_DV D.keq (passes_call (takes_of rfl rfl rfl rfl) (fun _ _ _ _ h => h))) (hr.mono (by decide))) (pe_lst (pa_cons (pe_op (rFloordiv D.T D.rfd (hr.mono (by decide)) (passes_call (takes_of rfl rfl rfl rfl) (fun _ _ _ _ h => h))) (pv 5) (pv 6)) (pa_cons (pe_op (rMod D.T D.rmd (hr.mono (by decide)) (passes_call (takes_of rfl rfl rfl rfl) (fun _ _ _ _ h => h))) (pv 5) (pv 6)) pa_nil))) (pe_lst (pa_cons (pe_op (lFloordiv (K := K) D.T D.fd (hr.mono (by decide)) (passes_call (takes_of rfl rfl rfl rfl) (fun _ _ _ _ h => h))) (pv 8) (pv 6)) (pa_cons (pe_op (lMod (K := K) D.T D.md (hr.mono (by decide)) (passes_call (takes_of rfl rfl rfl rfl) (fun _ _ _ _ h => h))) (pv 8) (pv 6)) pa_nil))) (nomark _))))) (pss_one (ps_ret pe_bl)) pss_nil)))))))))))))
      (pss_cons (ps_if (PW.pt (pw_or (pt_cmpR (oNe hu) (pe_op (rFloordiv D.T D.rfd (hr.mono (by decide)) (passes_call (takes_of rfl rfl rfl rfl) (fun _ _ _ _ h => h))) pe_int (pe_mk D.gR (hr.mono (by decide)) (passes_call (takes_of rfl rfl rfl rfl) (fun _ _ _ _ h => h)) (pa_cons pe_int (pa_cons pe_int pa_nil)))) pe_int (nomark _)) (pw_or (pt_cmpR (cNe (K := K) D.T D.eq D.ne (hr.mono (by decide)) (passes_call (takes_of rfl rfl rfl rfl) (fun _ _ _ _ h => h))) (pe_op (rMod D.T D.rmd (hr.mono (by decide)) (passes_call (takes_of rfl rfl rfl rfl) (fun _ _ _ _ h => h))) pe_int (pe_mk D.gR (hr.mono (by decide)) (passes_call (takes_of rfl rfl rfl rfl) (fun _ _ _ _ h => h)) (pa_cons pe_int (pa_cons pe_int pa_nil)))) (pe_mk D.gR (hr.mono (by decide)) (passes_call (takes_of rfl rfl rfl rfl) (fun _ _ _ _ h => h)) (pa_cons pe_int (pa_cons pe_int pa_nil))) (nomark _)) (pw_or1 (pt_cmpR op_ne (pe_callB (cRepr hgd hu) (by rfl) G.repr boot_repr (pa_cons (pe_op (rFloordiv D.T D.rfd (hr.mono (by decide)) (passes_call (takes_of rfl rfl rfl rfl) (fun _ _ _ _ h => h))) (pe_un un_neg pe_int) (pe_mk D.gR (hr.mono (by decide)) (passes_call (takes_of rfl rfl rfl rfl) (fun _ _ _ _ h => h)) (pa_cons pe_int pa_nil))) pa_nil)) pe_str (nomark _)))))) (pss_one (ps_ret pe_bl)) pss_nil)
      (pss_one (ps_ret (pe_and (pe_cmpR (oEq hu) (pe_op (lFloordiv (K := K) D.T D.fd (hr.mono (by decide)) (passes_call (takes_of rfl rfl rfl rfl) (fun _ _ _ _ h => h))) (pe_mk D.gR (hr.mono (by decide)) (passes_call (takes_of rfl rfl rfl rfl) (fun _ _ _ _ h => h)) (pa_cons pe_int (pa_cons pe_int pa_nil))) (pe_mk D.gR (hr.mono (by decide)) (passes_call (takes_of rfl rfl rfl rfl) (fun _ _ _ _ h => h)) (pa_cons pe_int (pa_cons pe_int pa_nil)))) pe_int (nomark _)) (pe_and (pe_cmpR (oEq hu) (pe_op (lFloordiv (K := K) D.T D.fd (hr.mono (by decide)) (passes_call (takes_of rfl rfl rfl rfl) (fun _ _ _ _ h => h))) (pe_mk D.gR (hr.mono (by decide)) (passes_call (takes_of rfl rfl rfl rfl) (fun _ _ _ _ h => h)) (pa_cons (pe_un un_neg pe_int) (pa_cons pe_int pa_nil))) pe_int) (pe_un un_neg pe_int) (nomark _)) (pe_one (pe_cmpR (cEq (K := K) D.eq (hr.mono (by decide)) (passes_call (takes_of rfl rfl rfl rfl) (fun _ _ _ _ h => h))) (pe_op (lMod (K := K) D.T D.md (hr.mono (by decide)) (passes_call (takes_of rfl rfl rfl rfl) (fun _ _ _ _ h => h))) (pe_mk D.gR (hr.mono (by decide)) (passes_call (takes_of rfl rfl rfl rfl) (fun _ _ _ _ h => h)) (pa_cons (pe_un un_neg pe_int) (pa_cons pe_int pa_nil))) pe_int) (pe_mk D.gR (hr.mono (by decide)) (passes_call (takes_of rfl rfl rfl rfl) (fun _ _ _ _ h => h)) (pa_cons pe_int (pa_cons pe_int pa_nil))) (nomark _)))))))))), ?_⟩
    try simp only [tSeq, tIfS, tAsg, tRet, tRetN, tDrop, tOp, tUn, tC, tCB, tCons, tNil, gName, gSub, gUnpU, tTest, tB, tNext, tAnd, tOr, tNot, tAndV, tOrV, tNotV, tIf, tLst, tTup, tPar, tPar3, tFn, tMkU, tMtU, tFldU, tSetF, tFmtU, tChain, tSl, tPart, L2.start, List.map_cons, List.map_nil, List.length_cons, List.length_nil, Nat.reduceAdd, Nat.reduceSub, List.reduceReplicate, List.cons_append, List.nil_append, e_v0, e_v1, e_v2, e_v3, e_v4, e_vs, e_set0, e_setS, b_2i, b_int, b_intb, b_abs, e_bl, b_if, b_ff, b_tt, b_un, b_fmti, b_fmts, b_js, b_jsn, b_jsc, b_booli, b_boolb, b_gcons, b_gnil, cxK, true_and, if_true, if_false, Bool.false_eq_true, Bool.not_true, Bool.not_false, exists_eq_left', exists_eq_left]
    refine ⟨a, ns, rfl, hS, hn, fun p H1 _ _ pen1 => ?_⟩
    try simp only [tSeq, tIfS, tAsg, tRet, tRetN, tDrop, tOp, tUn, tC, tCB, tCons, tNil, gName, gSub, gUnpU, tTest, tB, tNext, tAnd, tOr, tNot, tAndV, tOrV, tNotV, tIf, tLst, tTup, tPar, tPar3, tFn, tMkU, tMtU, tFldU, tSetF, tFmtU, tChain, tSl, tPart, L2.start, List.map_cons, List.map_nil, List.length_cons, List.length_nil, Nat.reduceAdd, Nat.reduceSub, List.reduceReplicate, List.cons_append, List.nil_append, e_v0, e_v1, e_v2, e_v3, e_v4, e_vs, e_set0, e_setS, b_2i, b_int, b_intb, b_abs, e_bl, b_if, b_ff, b_tt, b_un, b_fmti, b_fmts, b_js, b_jsn, b_jsc, b_booli, b_boolb, b_gcons, b_gnil, cxK, true_and, if_true, if_false, Bool.false_eq_true, Bool.not_true, Bool.not_false, exists_eq_left', exists_eq_left]
    refine s_forR 14 (fun i σ H => ∃ u2 u3 u4 u5 u6 u7 u8 u9 u10 u11 u12, σ = [some (.ref a), some (.ref p), u2, u3, u4, u5, u6, u7, u8, u9, u10, u11, u12] ∧ PenX H p (11 * i)) ⟨_, _, _, _, _, _, _, _, _, _, _, rfl, by simpa using pen1⟩ ?_ ?_
    · rintro i σ H2 hi ⟨u2, u3, u4, u5, u6, u7, u8, u9, u10, u11, u12, rfl, pen2⟩
      try simp only [tSeq, tIfS, tAsg, tRet, tRetN, tDrop, tOp, tUn, tC, tCB, tCons, tNil, gName, gSub, gUnpU, tTest, tB, tNext, tAnd, tOr, tNot, tAndV, tOrV, tNotV, tIf, tLst, tTup, tPar, tPar3, tFn, tMkU, tMtU, tFldU, tSetF, tFmtU, tChain, tSl, tPart, L2.start, List.map_cons, List.map_nil, List.length_cons, List.length_nil, Nat.reduceAdd, Nat.reduceSub, List.reduceReplicate, List.cons_append, List.nil_append, e_v0, e_v1, e_v2, e_v3, e_v4, e_vs, e_set0, e_setS, b_2i, b_int, b_intb, b_abs, e_bl, b_if, b_ff, b_tt, b_un, b_fmti, b_fmts, b_js, b_jsn, b_jsc, b_booli, b_boolb, b_gcons, b_gnil, cxK, true_and, if_true, if_false, Bool.false_eq_true, Bool.not_true, Bool.not_false, exists_eq_left', exists_eq_left]
      refine ⟨p, _, rfl, pen2, by omega, fun a b t1 H3 na nb hb tp1 _ y3 g3 pen3 => ?_⟩
      refine ⟨p, _, rfl, pen3, by omega, fun c0 d0 t2 H4 nc nd hd tp2 nt2 y4 g4 pen4 => ?_⟩
      refine ⟨_, _, rfl, ?_⟩
      refine ⟨p, 3, _, rfl, pen4, by omega, by decide, by decide, fun r H5 _ _ y5 pen5 => ?_⟩
      have pre : PreT p t1 a b (11 * i + 9) t2 H5 := ⟨c0, d0, num_nn nc, num_nn nd, hd, y5.at g4 tp2, y5.at (y4.at g3 tp1) tp1, pen5.ext (fun _ _ => rfl) (by omega)⟩
      refine s_eq d_int d_int ?_
      simp only [PyData.eqv, tSeq, tIfS, tAsg, tRet, tRetN, tDrop, tOp, tUn, tC, tCB, tCons, tNil, gName, gSub, gUnpU, tTest, tB, tNext, tAnd, tOr, tNot, tAndV, tOrV, tNotV, tIf, tLst, tTup, tPar, tPar3, tFn, tMkU, tMtU, tFldU, tSetF, tFmtU, tChain, tSl, tPart, L2.start, List.map_cons, List.map_nil, List.length_cons, List.length_nil, Nat.reduceAdd, Nat.reduceSub, List.reduceReplicate, List.cons_append, List.nil_append, e_v0, e_v1, e_v2, e_v3, e_v4, e_vs, e_set0, e_setS, b_2i, b_int, b_intb, b_abs, e_bl, b_if, b_ff, b_tt, b_un, b_fmti, b_fmts, b_js, b_jsn, b_jsc, b_booli, b_boolb, b_gcons, b_gnil, cxK, true_and, if_true, if_false, Bool.false_eq_true, Bool.not_true, Bool.not_false, exists_eq_left', exists_eq_left]
      clear pen5 y5 pen4 g4 y4 nt2 tp2 nc nd hd
      revert t2 H5
      refine if_join2 ?_ ?_
      · rintro t2 H5 ⟨c, d, nc, nd, hd, g2, g1, pen5⟩
        have tp2 := pen_tup pen5 g2
        have nna := num_nn na
        have nnb := num_nn nb
        have n1 : nn 1 := by unfold nn; decide +kernel
        refine ⟨p, _, rfl, pen5, by omega, fun k H6 nk x6 pen6 => ?_⟩
        have nnk := num_nn nk
        have g1a := x6.at g1 tp1
        have g2a := x6.at g2 tp2
        refine ⟨t1, t2, a, b, c, d, rfl, g1a, g2a, nna, nnb, nc, nd, hb, hd, fun H7 x7 => ?_⟩
        try simp only [tSeq, tIfS, tAsg, tRet, tRetN, tDrop, tOp, tUn, tC, tCB, tCons, tNil, gName, gSub, gUnpU, tTest, tB, tNext, tAnd, tOr, tNot, tAndV, tOrV, tNotV, tIf, tLst, tTup, tPar, tPar3, tFn, tMkU, tMtU, tFldU, tSetF, tFmtU, tChain, tSl, tPart, L2.start, List.map_cons, List.map_nil, List.length_cons, List.length_nil, Nat.reduceAdd, Nat.reduceSub, List.reduceReplicate, List.cons_append, List.nil_append, e_v0, e_v1, e_v2, e_v3, e_v4, e_vs, e_set0, e_setS, b_2i, b_int, b_intb, b_abs, e_bl, b_if, b_ff, b_tt, b_un, b_fmti, b_fmts, b_js, b_jsn, b_jsc, b_booli, b_boolb, b_gcons, b_gnil, cxK, true_and, if_true, if_false, Bool.false_eq_true, Bool.not_true, Bool.not_false, exists_eq_left', exists_eq_left]
        refine ⟨t2, t1, c, d, a, b, rfl, x7.at g2a, x7.at g1a, nc, nd, nna, nnb, hd, hb, fun H8 x8 => ?_⟩
        try simp only [tSeq, tIfS, tAsg, tRet, tRetN, tDrop, tOp, tUn, tC, tCB, tCons, tNil, gName, gSub, gUnpU, tTest, tB, tNext, tAnd, tOr, tNot, tAndV, tOrV, tNotV, tIf, tLst, tTup, tPar, tPar3, tFn, tMkU, tMtU, tFldU, tSetF, tFmtU, tChain, tSl, tPart, L2.start, List.map_cons, List.map_nil, List.length_cons, List.length_nil, Nat.reduceAdd, Nat.reduceSub, List.reduceReplicate, List.cons_append, List.nil_append, e_v0, e_v1, e_v2, e_v3, e_v4, e_vs, e_set0, e_setS, b_2i, b_int, b_intb, b_abs, e_bl, b_if, b_ff, b_tt, b_un, b_fmti, b_fmts, b_js, b_jsn, b_jsc, b_booli, b_boolb, b_gcons, b_gnil, cxK, true_and, if_true, if_false, Bool.false_eq_true, Bool.not_true, Bool.not_false, exists_eq_left', exists_eq_left]
        refine ⟨by decide, fun p9 n9 => ?_⟩
        refine ⟨t1, p9, a, b, k, 1, rfl, g_old n9 (x8.at (x7.at g1a)), upd_at, nna, nnb, nnk, n1, hb, by decide, fun H9 x9 => ?_⟩
        try simp only [tSeq, tIfS, tAsg, tRet, tRetN, tDrop, tOp, tUn, tC, tCB, tCons, tNil, gName, gSub, gUnpU, tTest, tB, tNext, tAnd, tOr, tNot, tAndV, tOrV, tNotV, tIf, tLst, tTup, tPar, tPar3, tFn, tMkU, tMtU, tFldU, tSetF, tFmtU, tChain, tSl, tPart, L2.start, List.map_cons, List.map_nil, List.length_cons, List.length_nil, Nat.reduceAdd, Nat.reduceSub, List.reduceReplicate, List.cons_append, List.nil_append, e_v0, e_v1, e_v2, e_v3, e_v4, e_vs, e_set0, e_setS, b_2i, b_int, b_intb, b_abs, e_bl, b_if, b_ff, b_tt, b_un, b_fmti, b_fmts, b_js, b_jsn, b_jsc, b_booli, b_boolb, b_gcons, b_gnil, cxK, true_and, if_true, if_false, Bool.false_eq_true, Bool.not_true, Bool.not_false, exists_eq_left', exists_eq_left]
        have x69 : Ext H6 H9 := x7.trans (x8.trans ((Ext.upd n9).trans x9))
        have G1 := x69.at g1a
        have G2 := x69.at g2a
        have pen9 := pen6.ext x69 (Int.le_refl _)
        clear x69 x9 x8 x7 pen6 pen5 g1 g2 g1a g2a
        refine s_ixT G1 at0 ?_
        refine s_ixT G1 at1 ?_
        refine s_mkRat (.inl rfl) hb (sm_big (nn_sm nnb)) (fun A1 d1 H10 _ r1 x10 => ?_)
        refine s_ixT (x10.at G2) at0 ?_
        refine s_ixT (x10.at G2) at1 ?_
        refine s_mkRat (.inl rfl) hd (sm_big (nn_sm nd)) (fun A2 d2 H11 _ r2 x11 => ?_)
        refine ⟨by decide, fun p11 n11 => ?_⟩
        refine s_unp upd_at rfl ?_
        try simp only [tSeq, tIfS, tAsg, tRet, tRetN, tDrop, tOp, tUn, tC, tCB, tCons, tNil, gName, gSub, gUnpU, tTest, tB, tNext, tAnd, tOr, tNot, tAndV, tOrV, tNotV, tIf, tLst, tTup, tPar, tPar3, tFn, tMkU, tMtU, tFldU, tSetF, tFmtU, tChain, tSl, tPart, L2.start, List.map_cons, List.map_nil, List.length_cons, List.length_nil, Nat.reduceAdd, Nat.reduceSub, List.reduceReplicate, List.cons_append, List.nil_append, e_v0, e_v1, e_v2, e_v3, e_v4, e_vs, e_set0, e_setS, b_2i, b_int, b_intb, b_abs, e_bl, b_if, b_ff, b_tt, b_un, b_fmti, b_fmts, b_js, b_jsn, b_jsc, b_booli, b_boolb, b_gcons, b_gnil, cxK, true_and, if_true, if_false, Bool.false_eq_true, Bool.not_true, Bool.not_false, exists_eq_left', exists_eq_left]
        refine s_mkRat (.inr ⟨rfl, rfl⟩) (by decide) (sm_big sm_one) (fun A3 d3 H12 _ r3 x12 => ?_)
        rw [low_one.1, low_one.2] at r3
        try simp only [tSeq, tIfS, tAsg, tRet, tRetN, tDrop, tOp, tUn, tC, tCB, tCons, tNil, gName, gSub, gUnpU, tTest, tB, tNext, tAnd, tOr, tNot, tAndV, tOrV, tNotV, tIf, tLst, tTup, tPar, tPar3, tFn, tMkU, tMtU, tFldU, tSetF, tFmtU, tChain, tSl, tPart, L2.start, List.map_cons, List.map_nil, List.length_cons, List.length_nil, Nat.reduceAdd, Nat.reduceSub, List.reduceReplicate, List.cons_append, List.nil_append, e_v0, e_v1, e_v2, e_v3, e_v4, e_vs, e_set0, e_setS, b_2i, b_int, b_intb, b_abs, e_bl, b_if, b_ff, b_tt, b_un, b_fmti, b_fmts, b_js, b_jsn, b_jsc, b_booli, b_boolb, b_gcons, b_gnil, cxK, true_and, if_true, if_false, Bool.false_eq_true, Bool.not_true, Bool.not_false, exists_eq_left', exists_eq_left]
        have r1a := x12.at (g_old n11 (x11.at r1))
        have r2a := x12.at (g_old n11 r2)
        have x912 := x10.trans (x11.trans ((Ext.upd n11).trans x12))
        have G1a := x912.at G1
        have G2a := x912.at G2
        have pen12 := pen9.ext x912 (Int.le_refl _)
        have nt1 : nn (lowT a b) := Nat.lt_of_le_of_lt (lowT_abs hb) nna
        have nb1 : nn (lowB a b) := Nat.lt_of_le_of_lt (lowB_abs hb) nnb
        have nt2 : nn (lowT c d) := Nat.lt_of_le_of_lt (lowT_abs hd) nc
        have nb2 : nn (lowB c d) := Nat.lt_of_le_of_lt (lowB_abs hd) nd
        have st1 := nn_sm nt1
        have sb1 := nn_sm nb1
        have st2 := nn_sm nt2
        have sb2 := nn_sm nb2
        have sk := nn_sm nnk
        have z1 := pos_ne (lowB_pos (t := a) hb)
        have z2 := pos_ne (lowB_pos (t := c) hd)
        clear pen9 G1 G2 x912 x12 x11 x10 r1 r2
        refine ⟨s_ins r1a, ty_int D.T, A1, d1, _, _, _, _, _, rfl, r1a, num_int, st1, sb1, sk, sm_one, fun H13 x13 => ?_⟩
        have r1b := x13.at r1a
        refine ⟨s_ins r1b, ty_int D.T, A1, d1, _, _, _, _, _, rfl, r1b, num_int, st1, sb1, sk, sm_one, fun H14 x14 => ?_⟩
        have r1c := x14.at r1b
        refine ⟨s_ins r1c, ty_int D.T, A1, d1, _, _, _, _, _, rfl, r1c, num_int, st1, sb1, sk, sm_one, fun H15 x15 => ?_⟩
        have r1d := x15.at r1c
        refine ⟨s_ins r1d, ty_int D.T, A1, d1, _, _, _, _, _, rfl, r1d, num_int, st1, sb1, sk, sm_one, fun H16 x16 => ?_⟩
        refine ⟨by decide, fun p17 n17 => ?_⟩
        try simp only [tSeq, tIfS, tAsg, tRet, tRetN, tDrop, tOp, tUn, tC, tCB, tCons, tNil, gName, gSub, gUnpU, tTest, tB, tNext, tAnd, tOr, tNot, tAndV, tOrV, tNotV, tIf, tLst, tTup, tPar, tPar3, tFn, tMkU, tMtU, tFldU, tSetF, tFmtU, tChain, tSl, tPart, L2.start, List.map_cons, List.map_nil, List.length_cons, List.length_nil, Nat.reduceAdd, Nat.reduceSub, List.reduceReplicate, List.cons_append, List.nil_append, e_v0, e_v1, e_v2, e_v3, e_v4, e_vs, e_set0, e_setS, b_2i, b_int, b_intb, b_abs, e_bl, b_if, b_ff, b_tt, b_un, b_fmti, b_fmts, b_js, b_jsn, b_jsc, b_booli, b_boolb, b_gcons, b_gnil, cxK, true_and, if_true, if_false, Bool.false_eq_true, Bool.not_true, Bool.not_false, exists_eq_left', exists_eq_left]
        have x17 := x13.trans (x14.trans (x15.trans (x16.trans (Ext.upd (o := .lst [.bl (decide (lowT a b * 1 < k * lowB a b)), .bl (decide (lowT a b * 1 ≤ k * lowB a b)), .bl (decide (k * lowB a b < lowT a b * 1)), .bl (decide (k * lowB a b ≤ lowT a b * 1))]) n17))))
        have l17 : upd H16 p17 (.lst [.bl (decide (lowT a b * 1 < k * lowB a b)), .bl (decide (lowT a b * 1 ≤ k * lowB a b)), .bl (decide (k * lowB a b < lowT a b * 1)), .bl (decide (k * lowB a b ≤ lowT a b * 1))]) p17 = _ := upd_at
        generalize upd H16 p17 (.lst [.bl (decide (lowT a b * 1 < k * lowB a b)), .bl (decide (lowT a b * 1 ≤ k * lowB a b)), .bl (decide (k * lowB a b < lowT a b * 1)), .bl (decide (k * lowB a b ≤ lowT a b * 1))]) = H17 at x17 l17 ⊢
        clear r1b r1c r1d x13 x14 x15 x16
        have r1b := x17.at r1a
        have r3b := x17.at r3
        refine ⟨s_ins r1b, ty_own D.T r3b, A1, d1, _, _, _, _, _, rfl, r1b, num_rat r3b, st1, sb1, sk, sm_one, fun H18 x18 => ?_⟩
        have r1c := x18.at r1b
        have r3c := x18.at r3b
        refine ⟨s_ins r1c, ty_own D.T r3c, A1, d1, _, _, _, _, _, rfl, r1c, num_rat r3c, st1, sb1, sk, sm_one, fun H19 x19 => ?_⟩
        have r1d := x19.at r1c
        have r3d := x19.at r3c
        refine ⟨s_ins r1d, ty_own D.T r3d, A1, d1, _, _, _, _, _, rfl, r1d, num_rat r3d, st1, sb1, sk, sm_one, fun H20 x20 => ?_⟩
        have r1e := x20.at r1d
        have r3e := x20.at r3d
        refine ⟨s_ins r1e, ty_own D.T r3e, A1, d1, _, _, _, _, _, rfl, r1e, num_rat r3e, st1, sb1, sk, sm_one, fun H21 x21 => ?_⟩
        refine ⟨by decide, fun p22 n22 => ?_⟩
        have l22 := g_old (o := .lst [.bl (decide (lowT a b * 1 < k * lowB a b)), .bl (decide (lowT a b * 1 ≤ k * lowB a b)), .bl (decide (k * lowB a b < lowT a b * 1)), .bl (decide (k * lowB a b ≤ lowT a b * 1))]) n22 (x21.at (x20.at (x19.at (x18.at l17))))
        refine s_ne (d_lst l22 (d_cons d_bl (d_cons d_bl (d_cons d_bl (d_cons d_bl d_nil))))) (d_lst upd_at (d_cons d_bl (d_cons d_bl (d_cons d_bl (d_cons d_bl d_nil))))) ?_
        have x22 := x17.trans (x18.trans (x19.trans (x20.trans (x21.trans (Ext.upd (o := .lst [.bl (decide (lowT a b * 1 < k * lowB a b)), .bl (decide (lowT a b * 1 ≤ k * lowB a b)), .bl (decide (k * lowB a b < lowT a b * 1)), .bl (decide (k * lowB a b ≤ lowT a b * 1))]) n22)))))
        generalize upd H21 p22 _ = H22 at x22 ⊢
        simp only [PyData.eqv, PyData.eqvAll, beq_self_eq_true, Bool.and_self, Bool.and_true, tSeq, tIfS, tAsg, tRet, tRetN, tDrop, tOp, tUn, tC, tCB, tCons, tNil, gName, gSub, gUnpU, tTest, tB, tNext, tAnd, tOr, tNot, tAndV, tOrV, tNotV, tIf, tLst, tTup, tPar, tPar3, tFn, tMkU, tMtU, tFldU, tSetF, tFmtU, tChain, tSl, tPart, L2.start, List.map_cons, List.map_nil, List.length_cons, List.length_nil, Nat.reduceAdd, Nat.reduceSub, List.reduceReplicate, List.cons_append, List.nil_append, e_v0, e_v1, e_v2, e_v3, e_v4, e_vs, e_set0, e_setS, b_2i, b_int, b_intb, b_abs, e_bl, b_if, b_ff, b_tt, b_un, b_fmti, b_fmts, b_js, b_jsn, b_jsc, b_booli, b_boolb, b_gcons, b_gnil, cxK, true_and, if_true, if_false, Bool.false_eq_true, Bool.not_true, Bool.not_false, exists_eq_left', exists_eq_left]
        have zk1 : (1 : Int) ≠ 0 := by decide
        refine s_ixT (x22.at G2a) at0 ?_
        refine s_ne d_int d_int ?_
        simp only [PyData.eqv, tSeq, tIfS, tAsg, tRet, tRetN, tDrop, tOp, tUn, tC, tCB, tCons, tNil, gName, gSub, gUnpU, tTest, tB, tNext, tAnd, tOr, tNot, tAndV, tOrV, tNotV, tIf, tLst, tTup, tPar, tPar3, tFn, tMkU, tMtU, tFldU, tSetF, tFmtU, tChain, tSl, tPart, L2.start, List.map_cons, List.map_nil, List.length_cons, List.length_nil, Nat.reduceAdd, Nat.reduceSub, List.reduceReplicate, List.cons_append, List.nil_append, e_v0, e_v1, e_v2, e_v3, e_v4, e_vs, e_set0, e_setS, b_2i, b_int, b_intb, b_abs, e_bl, b_if, b_ff, b_tt, b_un, b_fmti, b_fmts, b_js, b_jsn, b_jsc, b_booli, b_boolb, b_gcons, b_gnil, cxK, true_and, if_true, if_false, Bool.false_eq_true, Bool.not_true, Bool.not_false, exists_eq_left', exists_eq_left]
        clear l22 l17 r1b r1c r1d r1e r3b r3c r3d r3e x17 x18 x19 x20 x21
        revert u10 H22
        refine if_joinO ?_ ?_
        · intro o H23 x23
          refine s_ne d_int d_int ?_
          simp only [PyData.eqv, tSeq, tIfS, tAsg, tRet, tRetN, tDrop, tOp, tUn, tC, tCB, tCons, tNil, gName, gSub, gUnpU, tTest, tB, tNext, tAnd, tOr, tNot, tAndV, tOrV, tNotV, tIf, tLst, tTup, tPar, tPar3, tFn, tMkU, tMtU, tFldU, tSetF, tFmtU, tChain, tSl, tPart, L2.start, List.map_cons, List.map_nil, List.length_cons, List.length_nil, Nat.reduceAdd, Nat.reduceSub, List.reduceReplicate, List.cons_append, List.nil_append, e_v0, e_v1, e_v2, e_v3, e_v4, e_vs, e_set0, e_setS, b_2i, b_int, b_intb, b_abs, e_bl, b_if, b_ff, b_tt, b_un, b_fmti, b_fmts, b_js, b_jsn, b_jsc, b_booli, b_boolb, b_gcons, b_gnil, cxK, true_and, if_true, if_false, Bool.false_eq_true, Bool.not_true, Bool.not_false, exists_eq_left', exists_eq_left]
          revert H23
          refine if_join ?_ ?_
          · intro H23 x23
            refine s_ixT (x23.at G1a) at0 ?_
            refine s_ne d_int d_int ?_
            simp only [PyData.eqv, tSeq, tIfS, tAsg, tRet, tRetN, tDrop, tOp, tUn, tC, tCB, tCons, tNil, gName, gSub, gUnpU, tTest, tB, tNext, tAnd, tOr, tNot, tAndV, tOrV, tNotV, tIf, tLst, tTup, tPar, tPar3, tFn, tMkU, tMtU, tFldU, tSetF, tFmtU, tChain, tSl, tPart, L2.start, List.map_cons, List.map_nil, List.length_cons, List.length_nil, Nat.reduceAdd, Nat.reduceSub, List.reduceReplicate, List.cons_append, List.nil_append, e_v0, e_v1, e_v2, e_v3, e_v4, e_vs, e_set0, e_setS, b_2i, b_int, b_intb, b_abs, e_bl, b_if, b_ff, b_tt, b_un, b_fmti, b_fmts, b_js, b_jsn, b_jsc, b_booli, b_boolb, b_gcons, b_gnil, cxK, true_and, if_true, if_false, Bool.false_eq_true, Bool.not_true, Bool.not_false, exists_eq_left', exists_eq_left]
            revert H23
            refine if_join ?_ ?_
            · intro H23 x23
              exact ⟨_, _, _, _, _, _, _, _, _, _, _, rfl, pen12.ext x23 (by omega)⟩
            · intro h0 hj H23 x23
              have ha : a ≠ 0 := by simpa using h0
              have zt1 : lowT a b ≠ 0 := fun e => ha ((low_zero hb).mp e)
              have q1 := x23.at r1a
              have q3 := x23.at r3
              refine ⟨s_ins q1, A1, d1, _, _, _, _, _, rfl, q1, num_int, zt1, zk1, st1, sb1, sk, sm_one, fun H24 x24 => ?_⟩
              refine ⟨s_ins (x24.at q1), A1, d1, _, _, _, _, _, rfl, x24.at q1, num_int, zt1, z1, zk1, st1, sb1, sk, sm_one, fun A6 d6 H25 x25 r6 => ?_⟩
              refine ⟨by decide, fun p26 n26 => ?_⟩
              have q1a := g_old (o := .lst [.int ((k * lowB a b).fdiv (1 * lowT a b)), .ref A6]) n26 (x25.at (x24.at q1))
              have q3a := g_old (o := .lst [.int ((k * lowB a b).fdiv (1 * lowT a b)), .ref A6]) n26 (x25.at (x24.at q3))
              refine ⟨s_ins q3a, numT_own D.T q1a, A3, d3, _, _, _, _, _, rfl, q3a, num_rat q1a, zt1, zk1, sk, sm_one, st1, sb1, fun H27 x27 => ?_⟩
              refine ⟨s_ins (x27.at q3a), numT_own D.T (x27.at q1a), A3, d3, _, _, _, _, _, rfl, x27.at q3a, num_rat (x27.at q1a), zt1, zk1, z1, sk, sm_one, st1, sb1, fun A7 d7 H28 x28 r7 => ?_⟩
              refine ⟨by decide, fun p29 n29 => ?_⟩
              refine ⟨⟨p26, p29, _, _, rfl, rfl, g_old n29 (x28.at (x27.at upd_at)), upd_at, L2.Prs.cons dv_int (L2.Prs.cons (dv_rat (g_old n29 (x28.at (x27.at (g_old n26 r6)))) (g_old n29 r7)) L2.Prs.nil)⟩, fun H30 x30 => ?_⟩
              try simp only [tSeq, tIfS, tAsg, tRet, tRetN, tDrop, tOp, tUn, tC, tCB, tCons, tNil, gName, gSub, gUnpU, tTest, tB, tNext, tAnd, tOr, tNot, tAndV, tOrV, tNotV, tIf, tLst, tTup, tPar, tPar3, tFn, tMkU, tMtU, tFldU, tSetF, tFmtU, tChain, tSl, tPart, L2.start, List.map_cons, List.map_nil, List.length_cons, List.length_nil, Nat.reduceAdd, Nat.reduceSub, List.reduceReplicate, List.cons_append, List.nil_append, e_v0, e_v1, e_v2, e_v3, e_v4, e_vs, e_set0, e_setS, b_2i, b_int, b_intb, b_abs, e_bl, b_if, b_ff, b_tt, b_un, b_fmti, b_fmts, b_js, b_jsn, b_jsc, b_booli, b_boolb, b_gcons, b_gnil, cxK, true_and, if_true, if_false, Bool.false_eq_true, Bool.not_true, Bool.not_false, exists_eq_left', exists_eq_left]
              exact hj H30 (x23.trans (x24.trans (x25.trans ((Ext.upd n26).trans (x27.trans (x28.trans ((Ext.upd n29).trans x30)))))))
          · intro h0 hj H23 x23
            have hk : k ≠ 0 := by simpa using h0
            have q1 := x23.at r1a
            have q3 := x23.at r3
            refine ⟨s_ins q1, numT_floordiv D.T, A1, d1, _, _, _, _, _, rfl, q1, num_int, hk, z1, st1, sb1, sk, sm_one, fun H24 x24 => ?_⟩
            refine ⟨s_ins (x24.at q1), numT_mod D.T, A1, d1, _, _, _, _, _, rfl, x24.at q1, num_int, hk, z1, zk1, st1, sb1, sk, sm_one, fun A6 d6 H25 x25 r6 => ?_⟩
            refine ⟨by decide, fun p26 n26 => ?_⟩
            have q1a := g_old (o := .lst [.int ((lowT a b * 1).fdiv (lowB a b * k)), .ref A6]) n26 (x25.at (x24.at q1))
            have q3a := g_old (o := .lst [.int ((lowT a b * 1).fdiv (lowB a b * k)), .ref A6]) n26 (x25.at (x24.at q3))
            refine ⟨s_ins q1a, numT_own D.T q3a, A1, d1, _, _, _, _, _, rfl, q1a, num_rat q3a, hk, z1, st1, sb1, sk, sm_one, fun H27 x27 => ?_⟩
            refine ⟨s_ins (x27.at q1a), numT_own D.T (x27.at q3a), A1, d1, _, _, _, _, _, rfl, x27.at q1a, num_rat (x27.at q3a), hk, z1, zk1, st1, sb1, sk, sm_one, fun A7 d7 H28 x28 r7 => ?_⟩
            refine ⟨by decide, fun p29 n29 => ?_⟩
            refine ⟨⟨p26, p29, _, _, rfl, rfl, g_old n29 (x28.at (x27.at upd_at)), upd_at, L2.Prs.cons dv_int (L2.Prs.cons (dv_rat (g_old n29 (x28.at (x27.at (g_old n26 r6)))) (g_old n29 r7)) L2.Prs.nil)⟩, fun H30 x30 => ?_⟩
            try simp only [tSeq, tIfS, tAsg, tRet, tRetN, tDrop, tOp, tUn, tC, tCB, tCons, tNil, gName, gSub, gUnpU, tTest, tB, tNext, tAnd, tOr, tNot, tAndV, tOrV, tNotV, tIf, tLst, tTup, tPar, tPar3, tFn, tMkU, tMtU, tFldU, tSetF, tFmtU, tChain, tSl, tPart, L2.start, List.map_cons, List.map_nil, List.length_cons, List.length_nil, Nat.reduceAdd, Nat.reduceSub, List.reduceReplicate, List.cons_append, List.nil_append, e_v0, e_v1, e_v2, e_v3, e_v4, e_vs, e_set0, e_setS, b_2i, b_int, b_intb, b_abs, e_bl, b_if, b_ff, b_tt, b_un, b_fmti, b_fmts, b_js, b_jsn, b_jsc, b_booli, b_boolb, b_gcons, b_gnil, cxK, true_and, if_true, if_false, Bool.false_eq_true, Bool.not_true, Bool.not_false, exists_eq_left', exists_eq_left]
            exact hj H30 (x23.trans (x24.trans (x25.trans ((Ext.upd n26).trans (x27.trans (x28.trans ((Ext.upd n29).trans x30)))))))
        · intro h0 hj o H23 x23
          have hc : c ≠ 0 := by simpa using h0
          have zt2 : lowT c d ≠ 0 := fun e => hc ((low_zero hd).mp e)
          refine ⟨t1, t2, a, b, c, d, rfl, x23.at G1a, x23.at G2a, nna, nnb, nc, nd, hb, hd, hc, fun H24 x24 => ?_⟩
          try simp only [tSeq, tIfS, tAsg, tRet, tRetN, tDrop, tOp, tUn, tC, tCB, tCons, tNil, gName, gSub, gUnpU, tTest, tB, tNext, tAnd, tOr, tNot, tAndV, tOrV, tNotV, tIf, tLst, tTup, tPar, tPar3, tFn, tMkU, tMtU, tFldU, tSetF, tFmtU, tChain, tSl, tPart, L2.start, List.map_cons, List.map_nil, List.length_cons, List.length_nil, Nat.reduceAdd, Nat.reduceSub, List.reduceReplicate, List.cons_append, List.nil_append, e_v0, e_v1, e_v2, e_v3, e_v4, e_vs, e_set0, e_setS, b_2i, b_int, b_intb, b_abs, e_bl, b_if, b_ff, b_tt, b_un, b_fmti, b_fmts, b_js, b_jsn, b_jsc, b_booli, b_boolb, b_gcons, b_gnil, cxK, true_and, if_true, if_false, Bool.false_eq_true, Bool.not_true, Bool.not_false, exists_eq_left', exists_eq_left]
          have q1 := x24.at (x23.at r1a)
          have q2 := x24.at (x23.at r2a)
          refine ⟨s_ins q1, numT_own D.T q2, A1, d1, _, _, _, _, _, rfl, q1, num_rat q2, zt2, z1, st1, sb1, st2, sb2, fun H25 x25 => ?_⟩
          refine ⟨s_ins (x25.at q1), numT_own D.T (x25.at q2), A1, d1, _, _, _, _, _, rfl, x25.at q1, num_rat (x25.at q2), zt2, z1, z2, st1, sb1, st2, sb2, fun A6 d6 H26 x26 r6 => ?_⟩
          refine ⟨by decide, fun p27 n27 => ?_⟩
          try simp only [tSeq, tIfS, tAsg, tRet, tRetN, tDrop, tOp, tUn, tC, tCB, tCons, tNil, gName, gSub, gUnpU, tTest, tB, tNext, tAnd, tOr, tNot, tAndV, tOrV, tNotV, tIf, tLst, tTup, tPar, tPar3, tFn, tMkU, tMtU, tFldU, tSetF, tFmtU, tChain, tSl, tPart, L2.start, List.map_cons, List.map_nil, List.length_cons, List.length_nil, Nat.reduceAdd, Nat.reduceSub, List.reduceReplicate, List.cons_append, List.nil_append, e_v0, e_v1, e_v2, e_v3, e_v4, e_vs, e_set0, e_setS, b_2i, b_int, b_intb, b_abs, e_bl, b_if, b_ff, b_tt, b_un, b_fmti, b_fmts, b_js, b_jsn, b_jsc, b_booli, b_boolb, b_gcons, b_gnil, cxK, true_and, if_true, if_false, Bool.false_eq_true, Bool.not_true, Bool.not_false, exists_eq_left', exists_eq_left]
          have q1a := g_old (o := .lst [.int ((lowT a b * lowB c d).fdiv (lowB a b * lowT c d)), .ref A6]) n27 (x26.at (x25.at q1))
          have q2a := g_old (o := .lst [.int ((lowT a b * lowB c d).fdiv (lowB a b * lowT c d)), .ref A6]) n27 (x26.at (x25.at q2))
          have q6a := g_old (o := .lst [.int ((lowT a b * lowB c d).fdiv (lowB a b * lowT c d)), .ref A6]) n27 r6
          have gd : upd H26 p27 (.lst [.int ((lowT a b * lowB c d).fdiv (lowB a b * lowT c d)), .ref A6]) p27 = some (.lst [.int ((lowT a b * lowB c d).fdiv (lowB a b * lowT c d)), .ref A6]) := upd_at
          have x27 : Ext H12 (upd H26 p27 (.lst [.int ((lowT a b * lowB c d).fdiv (lowB a b * lowT c d)), .ref A6])) := x23.trans (x24.trans (x25.trans (x26.trans (Ext.upd n27))))
          generalize upd H26 p27 (.lst [.int ((lowT a b * lowB c d).fdiv (lowB a b * lowT c d)), .ref A6]) = H27 at q1a q2a q6a gd x27 ⊢
          refine s_lcR (n := 2) (fun j y Hh => ∃ l v, y = .ref l ∧ Hh l = some (.lst [v, .ref A1]) ∧ ((j = 0 ∧ v = .int ((lowT a b * lowB c d).fdiv (lowB a b * lowT c d))) ∨ (j ≠ 0 ∧ ∃ a' dx', v = .ref a' ∧ Hh a' = some (.ins C dx' (ratF (lowT (modT (lowT a b) (lowB a b) (lowT c d) (lowB c d)) (lowB a b * lowB c d)) (lowB (modT (lowT a b) (lowB a b) (lowT c d) (lowB c d)) (lowB a b * lowB c d))))))) ?_ (by decide) ?_ ?_
          · rintro j y Ha Hb e ⟨l, v, e1, e2, e3⟩
            refine ⟨l, v, e1, e.at e2, ?_⟩
            rcases e3 with e3 | ⟨e3, a', dx', e4, e5⟩
            · exact .inl e3
            · exact .inr ⟨e3, a', dx', e4, e.at e5⟩
          · intro D0 j H28 Z W hj2 nD nD2 x28 hz
            simp only [wipe, tYes, tSeq, tIfS, tAsg, tRet, tRetN, tDrop, tOp, tUn, tC, tCB, tCons, tNil, gName, gSub, gUnpU, tTest, tB, tNext, tAnd, tOr, tNot, tAndV, tOrV, tNotV, tIf, tLst, tTup, tPar, tPar3, tFn, tMkU, tMtU, tFldU, tSetF, tFmtU, tChain, tSl, tPart, L2.start, List.map_cons, List.map_nil, List.length_cons, List.length_nil, Nat.reduceAdd, Nat.reduceSub, List.reduceReplicate, List.cons_append, List.nil_append, e_v0, e_v1, e_v2, e_v3, e_v4, e_vs, e_set0, e_setS, b_2i, b_int, b_intb, b_abs, e_bl, b_if, b_ff, b_tt, b_un, b_fmti, b_fmts, b_js, b_jsn, b_jsc, b_booli, b_boolb, b_gcons, b_gnil, cxK, true_and, if_true, if_false, Bool.false_eq_true, Bool.not_true, Bool.not_false, exists_eq_left', exists_eq_left]
            refine ⟨j, A1, d1, _, _, A2, d2, _, _, rfl, x28.at q1a, x28.at q2a, z1, z2, zt2, st1, sb1, st2, sb2, fun l v H29 nl x29 hv gl => ?_⟩
            refine hz _ _ x29 ⟨l, v, rfl, new_hide nD2 nl gl, ?_⟩
            rcases hv with ⟨h1, h2⟩ | ⟨h1, a', dx', h2, h3⟩
            · exact .inl ⟨by omega, h2⟩
            · exact .inr ⟨by omega, a', dx', h2, ins_hide nD2 x29 h3⟩
          · intro D0 ys H28 nD x28 gD hl all
            refine s_lcL (a := p27) (xs := [.int ((lowT a b * lowB c d).fdiv (lowB a b * lowT c d)), .ref A6]) (fun j y Hh => ∃ l v, y = .ref l ∧ Hh l = some (.lst [v, .ref A1]) ∧ ((j = 0 ∧ v = .int ((lowT a b * lowB c d).fdiv (lowB a b * lowT c d))) ∨ (j ≠ 0 ∧ v = .ref A6))) ?_ (x28.at gd) (by show 2 ≤ sizeLine; decide) ?_ ?_
            · rintro j y Ha Hb e ⟨l, v, e1, e2, e3⟩
              exact ⟨l, v, e1, e.at e2, e3⟩
            · intro D1 j x H29 Z W hx nD1 nD2 x29 hz
              simp only [wipe, tYes, tSeq, tIfS, tAsg, tRet, tRetN, tDrop, tOp, tUn, tC, tCB, tCons, tNil, gName, gSub, gUnpU, tTest, tB, tNext, tAnd, tOr, tNot, tAndV, tOrV, tNotV, tIf, tLst, tTup, tPar, tPar3, tFn, tMkU, tMtU, tFldU, tSetF, tFmtU, tChain, tSl, tPart, L2.start, List.map_cons, List.map_nil, List.length_cons, List.length_nil, Nat.reduceAdd, Nat.reduceSub, List.reduceReplicate, List.cons_append, List.nil_append, e_v0, e_v1, e_v2, e_v3, e_v4, e_vs, e_set0, e_setS, b_2i, b_int, b_intb, b_abs, e_bl, b_if, b_ff, b_tt, b_un, b_fmti, b_fmts, b_js, b_jsn, b_jsc, b_booli, b_boolb, b_gcons, b_gnil, cxK, true_and, if_true, if_false, Bool.false_eq_true, Bool.not_true, Bool.not_false, exists_eq_left', exists_eq_left]
              refine ⟨by decide, fun p30 n30 => ?_⟩
              refine hz _ _ (Ext.upd n30) ⟨p30, x, rfl, new_hide nD2 n30 upd_at, ?_⟩
              rcases j with _ | _ | j
              · cases hx; exact .inl ⟨rfl, rfl⟩
              · cases hx; exact .inr ⟨by omega, rfl⟩
              · simp at hx
            · intro D1 zs H29 nD1 x29 gD1 hl1 all1
              have p6 := x29.at (x28.at q6a)
              have p1 := x29.at (x28.at q1a)
              refine ⟨⟨D0, D1, ys, zs, rfl, rfl, x29.at gD, gD1, hl.trans hl1.symm, fun j x y hx hy => ?_⟩, fun H30 x30 => ?_⟩
              · obtain ⟨l, v, rfl, gl, hv⟩ := all j x hx
                obtain ⟨l2, v2, rfl, gl2, hv2⟩ := all1 j y hy
                refine ⟨l, l2, _, _, rfl, rfl, x29.at (hide_of gl), hide_of gl2, L2.Prs.cons ?_ (L2.Prs.cons (dv_rat p1 p1) L2.Prs.nil)⟩
                rcases hv with ⟨h1, rfl⟩ | ⟨h1, a', dx', rfl, h3⟩
                · rcases hv2 with ⟨h4, rfl⟩ | ⟨h4, _⟩
                  · exact dv_int
                  · exact absurd h1 h4
                · rcases hv2 with ⟨h4, _⟩ | ⟨h4, rfl⟩
                  · exact absurd h4 h1
                  · exact dv_rat (x29.at (hide_of h3)) p6
              · simp only [tSeq, tIfS, tAsg, tRet, tRetN, tDrop, tOp, tUn, tC, tCB, tCons, tNil, gName, gSub, gUnpU, tTest, tB, tNext, tAnd, tOr, tNot, tAndV, tOrV, tNotV, tIf, tLst, tTup, tPar, tPar3, tFn, tMkU, tMtU, tFldU, tSetF, tFmtU, tChain, tSl, tPart, L2.start, List.map_cons, List.map_nil, List.length_cons, List.length_nil, Nat.reduceAdd, Nat.reduceSub, List.reduceReplicate, List.cons_append, List.nil_append, e_v0, e_v1, e_v2, e_v3, e_v4, e_vs, e_set0, e_setS, b_2i, b_int, b_intb, b_abs, e_bl, b_if, b_ff, b_tt, b_un, b_fmti, b_fmts, b_js, b_jsn, b_jsc, b_booli, b_boolb, b_gcons, b_gnil, cxK, true_and, if_true, if_false, Bool.false_eq_true, Bool.not_true, Bool.not_false, exists_eq_left', exists_eq_left]
                exact hj _ H30 (x27.trans (x28.trans (x29.trans x30)))
      · rintro hr0 hj t2 H5 ⟨c, d, nc, nd, hd, g2, g1, pen5⟩
        have s3 : sm 3 := by unfold sm; decide +kernel
        refine s_ixT g1 at0 ?_
        simp only [e_v0, e_v1, e_v2, e_v3, e_v4, e_vs, e_set0, e_setS, b_2i, b_int, b_intb, b_abs, e_bl, b_if, b_ff, b_tt, b_un, b_fmti, b_fmts, b_js, b_jsn, b_jsc, b_booli, b_boolb, b_gcons, b_gnil, cxK, true_and, if_true, if_false, Bool.false_eq_true, Bool.not_true, Bool.not_false, exists_eq_left', exists_eq_left]
        refine ⟨cmulB (num_sm na) s3, ?_⟩
        refine s_ixT g1 at1 ?_
        simp only [e_v0, e_v1, e_v2, e_v3, e_v4, e_vs, e_set0, e_setS, b_2i, b_int, b_intb, b_abs, e_bl, b_if, b_ff, b_tt, b_un, b_fmti, b_fmts, b_js, b_jsn, b_jsc, b_booli, b_boolb, b_gcons, b_gnil, cxK, true_and, if_true, if_false, Bool.false_eq_true, Bool.not_true, Bool.not_false, exists_eq_left', exists_eq_left]
        refine ⟨cmulB (num_sm nb) s3, ?_⟩
        exact ⟨by decide, fun p5 n5 => hj p5 _ ⟨a * 3, b * 3, num_nn3 na, num_nn3 nb, by omega, upd_at, g_old n5 g1, pen5.ext (Ext.upd n5) (Int.le_refl _)⟩⟩
    · rintro σ H2 ⟨u2, u3, u4, u5, u6, u7, u8, u9, u10, u11, u12, rfl, pen2⟩
      try simp only [tSeq, tIfS, tAsg, tRet, tRetN, tDrop, tOp, tUn, tC, tCB, tCons, tNil, gName, gSub, gUnpU, tTest, tB, tNext, tAnd, tOr, tNot, tAndV, tOrV, tNotV, tIf, tLst, tTup, tPar, tPar3, tFn, tMkU, tMtU, tFldU, tSetF, tFmtU, tChain, tSl, tPart, L2.start, List.map_cons, List.map_nil, List.length_cons, List.length_nil, Nat.reduceAdd, Nat.reduceSub, List.reduceReplicate, List.cons_append, List.nil_append, e_v0, e_v1, e_v2, e_v3, e_v4, e_vs, e_set0, e_setS, b_2i, b_int, b_intb, b_abs, e_bl, b_if, b_ff, b_tt, b_un, b_fmti, b_fmts, b_js, b_jsn, b_jsc, b_booli, b_boolb, b_gcons, b_gnil, cxK, true_and, if_true, if_false, Bool.false_eq_true, Bool.not_true, Bool.not_false, exists_eq_left', exists_eq_left]
      have n23 : sm (lowT 2 3) ∧ sm (lowB 2 3) ∧ sm (lowT 3 1) ∧ sm (lowB 3 1) ∧ sm (lowT 7 2) ∧ sm (lowB 7 2) := by unfold sm; decide +kernel
      have n12 : sm (lowT 1 2) ∧ sm (lowB 1 2) ∧ sm (lowT (-7) 2) ∧ sm (lowB (-7) 2) ∧ sm 7 ∧ sm (-7) := by unfold sm; decide +kernel
      refine s_mkRat (.inl rfl) (by decide) (sm_big (by unfold sm; decide +kernel)) (fun A1 d1 H3 _ r1 x3 => ?_)
      refine ⟨s_ins r1, A1, d1, _, _, _, _, _, rfl, r1, num_int, by decide +kernel, by decide, n23.1, n23.2.1, n12.2.2.2.2.1, sm_one, fun H4 x4 => ?_⟩
      refine s_ne d_int d_int ?_
      have e1 : ((7 * lowB 2 3).fdiv (1 * lowT 2 3) == 10) = true := by decide +kernel
      simp only [e1, PyData.eqv, tSeq, tIfS, tAsg, tRet, tRetN, tDrop, tOp, tUn, tC, tCB, tCons, tNil, gName, gSub, gUnpU, tTest, tB, tNext, tAnd, tOr, tNot, tAndV, tOrV, tNotV, tIf, tLst, tTup, tPar, tPar3, tFn, tMkU, tMtU, tFldU, tSetF, tFmtU, tChain, tSl, tPart, L2.start, List.map_cons, List.map_nil, List.length_cons, List.length_nil, Nat.reduceAdd, Nat.reduceSub, List.reduceReplicate, List.cons_append, List.nil_append, e_v0, e_v1, e_v2, e_v3, e_v4, e_vs, e_set0, e_setS, b_2i, b_int, b_intb, b_abs, e_bl, b_if, b_ff, b_tt, b_un, b_fmti, b_fmts, b_js, b_jsn, b_jsc, b_booli, b_boolb, b_gcons, b_gnil, cxK, true_and, if_true, if_false, Bool.false_eq_true, Bool.not_true, Bool.not_false, exists_eq_left', exists_eq_left]
      refine s_mkRat (.inl rfl) (by decide) (sm_big (by unfold sm; decide +kernel)) (fun A2 d2 H5 _ r2 x5 => ?_)
      refine ⟨s_ins r2, A2, d2, _, _, _, _, _, rfl, r2, num_int, by decide +kernel, by decide +kernel, by decide, n23.1, n23.2.1, n12.2.2.2.2.1, sm_one, fun A3 d3 H6 x6 r3 => ?_⟩
      refine s_mkRat (.inl rfl) (by decide) (sm_big (by unfold sm; decide +kernel)) (fun A4 d4 H7 _ r4 x7 => ?_)
      refine ⟨s_ins (x7.at r3), ty_own D.T r4, A3, d3, _, _, _, rfl, x7.at r3, .inl ⟨_, _, d4, A4, rfl, r4, _, rfl, ?_⟩⟩
      have e2 : (lowT (modT 7 1 (lowT 2 3) (lowB 2 3)) (1 * lowB 2 3) == lowT 1 3 && lowB (modT 7 1 (lowT 2 3) (lowB 2 3)) (1 * lowB 2 3) == lowB 1 3) = true := by decide +kernel
      simp only [e2, tSeq, tIfS, tAsg, tRet, tRetN, tDrop, tOp, tUn, tC, tCB, tCons, tNil, gName, gSub, gUnpU, tTest, tB, tNext, tAnd, tOr, tNot, tAndV, tOrV, tNotV, tIf, tLst, tTup, tPar, tPar3, tFn, tMkU, tMtU, tFldU, tSetF, tFmtU, tChain, tSl, tPart, L2.start, List.map_cons, List.map_nil, List.length_cons, List.length_nil, Nat.reduceAdd, Nat.reduceSub, List.reduceReplicate, List.cons_append, List.nil_append, e_v0, e_v1, e_v2, e_v3, e_v4, e_vs, e_set0, e_setS, b_2i, b_int, b_intb, b_abs, e_bl, b_if, b_ff, b_tt, b_un, b_fmti, b_fmts, b_js, b_jsn, b_jsc, b_booli, b_boolb, b_gcons, b_gnil, cxK, true_and, if_true, if_false, Bool.false_eq_true, Bool.not_true, Bool.not_false, exists_eq_left', exists_eq_left]
      refine s_mkRat (.inr ⟨rfl, rfl⟩) (by decide) (sm_big sm_one) (fun A5 d5 H8 _ r5 x8 => ?_)
      refine ⟨s_ins r5, A5, d5, _, _, _, _, _, rfl, r5, num_int, by decide +kernel, by decide, n23.2.2.1, n23.2.2.2.1, n12.2.2.2.2.2, sm_one, fun H9 x9 => ?_⟩
      refine s_reprI (by decide +kernel) ?_
      refine ⟨rfl, ?_⟩
      have e3 : decide (V.str ((toString ((-7 * lowB 3 1).fdiv (1 * lowT 3 1)) : String) : Str) = V.str (Str.ofString "-3")) = true := by
        have : (-7 * lowB 3 1).fdiv (1 * lowT 3 1) = -3 := by decide +kernel
        rw [this]
        exact decide_eq_true (congrArg V.str (by decide +kernel))
      simp only [e3, tSeq, tIfS, tAsg, tRet, tRetN, tDrop, tOp, tUn, tC, tCB, tCons, tNil, gName, gSub, gUnpU, tTest, tB, tNext, tAnd, tOr, tNot, tAndV, tOrV, tNotV, tIf, tLst, tTup, tPar, tPar3, tFn, tMkU, tMtU, tFldU, tSetF, tFmtU, tChain, tSl, tPart, L2.start, List.map_cons, List.map_nil, List.length_cons, List.length_nil, Nat.reduceAdd, Nat.reduceSub, List.reduceReplicate, List.cons_append, List.nil_append, e_v0, e_v1, e_v2, e_v3, e_v4, e_vs, e_set0, e_setS, b_2i, b_int, b_intb, b_abs, e_bl, b_if, b_ff, b_tt, b_un, b_fmti, b_fmts, b_js, b_jsn, b_jsc, b_booli, b_boolb, b_gcons, b_gnil, cxK, true_and, if_true, if_false, Bool.false_eq_true, Bool.not_true, Bool.not_false, exists_eq_left', exists_eq_left]
      refine s_mkRat (.inl rfl) (by decide) (sm_big (by unfold sm; decide +kernel)) (fun A6 d6 H10 _ r6 x10 => ?_)
      refine s_mkRat (.inl rfl) (by decide) (sm_big (by unfold sm; decide +kernel)) (fun A7 d7 H11 _ r7 x11 => ?_)
      refine ⟨s_ins (x11.at r6), numT_own D.T r7, A6, d6, _, _, _, _, _, rfl, x11.at r6, num_rat r7, by decide +kernel, by decide +kernel, n23.2.2.2.2.1, n23.2.2.2.2.2, n12.1, n12.2.1, fun H12 x12 => ?_⟩
      refine s_eq d_int d_int ?_
      have e4 : ((lowT 7 2 * lowB 1 2).fdiv (lowB 7 2 * lowT 1 2) == 7) = true := by decide +kernel
      simp only [e4, PyData.eqv, tSeq, tIfS, tAsg, tRet, tRetN, tDrop, tOp, tUn, tC, tCB, tCons, tNil, gName, gSub, gUnpU, tTest, tB, tNext, tAnd, tOr, tNot, tAndV, tOrV, tNotV, tIf, tLst, tTup, tPar, tPar3, tFn, tMkU, tMtU, tFldU, tSetF, tFmtU, tChain, tSl, tPart, L2.start, List.map_cons, List.map_nil, List.length_cons, List.length_nil, Nat.reduceAdd, Nat.reduceSub, List.reduceReplicate, List.cons_append, List.nil_append, e_v0, e_v1, e_v2, e_v3, e_v4, e_vs, e_set0, e_setS, b_2i, b_int, b_intb, b_abs, e_bl, b_if, b_ff, b_tt, b_un, b_fmti, b_fmts, b_js, b_jsn, b_jsc, b_booli, b_boolb, b_gcons, b_gnil, cxK, true_and, if_true, if_false, Bool.false_eq_true, Bool.not_true, Bool.not_false, exists_eq_left', exists_eq_left]
      refine s_mkRat (.inl rfl) (by decide) (sm_big (by unfold sm; decide +kernel)) (fun A8 d8 H13 _ r8 x13 => ?_)
      refine ⟨s_ins r8, numT_floordiv D.T, A8, d8, _, _, _, _, _, rfl, r8, num_int, by decide, by decide +kernel, n12.2.2.1, n12.2.2.2.1, sm_one, sm_one, fun H14 x14 => ?_⟩
      refine s_eq d_int d_int ?_
      have e5 : ((lowT (-7) 2 * 1).fdiv (lowB (-7) 2 * 1) == -4) = true := by decide +kernel
      simp only [e5, PyData.eqv, tSeq, tIfS, tAsg, tRet, tRetN, tDrop, tOp, tUn, tC, tCB, tCons, tNil, gName, gSub, gUnpU, tTest, tB, tNext, tAnd, tOr, tNot, tAndV, tOrV, tNotV, tIf, tLst, tTup, tPar, tPar3, tFn, tMkU, tMtU, tFldU, tSetF, tFmtU, tChain, tSl, tPart, L2.start, List.map_cons, List.map_nil, List.length_cons, List.length_nil, Nat.reduceAdd, Nat.reduceSub, List.reduceReplicate, List.cons_append, List.nil_append, e_v0, e_v1, e_v2, e_v3, e_v4, e_vs, e_set0, e_setS, b_2i, b_int, b_intb, b_abs, e_bl, b_if, b_ff, b_tt, b_un, b_fmti, b_fmts, b_js, b_jsn, b_jsc, b_booli, b_boolb, b_gcons, b_gnil, cxK, true_and, if_true, if_false, Bool.false_eq_true, Bool.not_true, Bool.not_false, exists_eq_left', exists_eq_left]
      refine s_mkRat (.inl rfl) (by decide) (sm_big (by unfold sm; decide +kernel)) (fun A9 d9 H15 _ r9 x15 => ?_)
      refine ⟨s_ins r9, numT_mod D.T, A9, d9, _, _, _, _, _, rfl, r9, num_int, by decide, by decide +kernel, by decide, n12.2.2.1, n12.2.2.2.1, sm_one, sm_one, fun A10 d10 H16 x16 r10 => ?_⟩
      refine s_mkRat (.inl rfl) (by decide) (sm_big (by unfold sm; decide +kernel)) (fun A11 d11 H17 _ r11 x17 => ?_)
      refine ⟨s_ins (x17.at r10), ty_own D.T r11, A10, d10, _, _, _, rfl, x17.at r10, .inl ⟨_, _, d11, A11, rfl, r11, ?_⟩⟩
      have e6 : (lowT (modT (lowT (-7) 2) (lowB (-7) 2) 1 1) (lowB (-7) 2 * 1) == lowT 1 2 && lowB (modT (lowT (-7) 2) (lowB (-7) 2) 1 1) (lowB (-7) 2 * 1) == lowB 1 2) = true := by decide +kernel
      rw [e6]
      exact q _
end
end Wp

set_option maxHeartbeats 0
namespace Wp
open PySem PySem.W L2 PyProof.Rows
def fn : List He.DefD := [⟨("is_integer", none), "is_integer", "is_integer", defArgs sIsInt, defBody sIsInt, defScope sIsInt, [], []⟩,
  ⟨("parts_of", none), "parts_of", "parts_of", defArgs sParts, defBody sParts, defScope sParts, [], []⟩,
  ⟨("parts_over", none), "parts_over", "parts_over", defArgs sOver1, defBody sOver1, defScope sOver1, [], []⟩,
  ⟨("Ratio", some "__init__"), "__init__", "Ratio.__init__", defArgs sInit, defBody sInit, defScope sInit, [.int 1], []⟩,
  ⟨("Ratio", some "__sub__"), "__sub__", "Ratio.__sub__", defArgs sSub, defBody sSub, defScope sSub, [], []⟩,
  ⟨("Ratio", some "__mul__"), "__mul__", "Ratio.__mul__", defArgs sMul, defBody sMul, defScope sMul, [], []⟩,
  ⟨("Ratio", some "__floordiv__"), "__floordiv__", "Ratio.__floordiv__", defArgs sFd, defBody sFd, defScope sFd, [], []⟩,
  ⟨("Ratio", some "__mod__"), "__mod__", "Ratio.__mod__", defArgs sMod, defBody sMod, defScope sMod, [], []⟩,
  ⟨("Ratio", some "__rfloordiv__"), "__rfloordiv__", "Ratio.__rfloordiv__", defArgs sRfd, defBody sRfd, defScope sRfd, [], []⟩,
  ⟨("Ratio", some "__rmod__"), "__rmod__", "Ratio.__rmod__", defArgs sRmod, defBody sRmod, defScope sRmod, [], []⟩,
  ⟨("Ratio", some "__lt__"), "__lt__", "Ratio.__lt__", defArgs sLt, defBody sLt, defScope sLt, [], []⟩,
  ⟨("Ratio", some "__le__"), "__le__", "Ratio.__le__", defArgs sLe, defBody sLe, defScope sLe, [], []⟩,
  ⟨("Ratio", some "__gt__"), "__gt__", "Ratio.__gt__", defArgs sGt, defBody sGt, defScope sGt, [], []⟩,
  ⟨("Ratio", some "__ge__"), "__ge__", "Ratio.__ge__", defArgs sGe, defBody sGe, defScope sGe, [], []⟩,
  ⟨("Ratio", some "__eq__"), "__eq__", "Ratio.__eq__", defArgs sEq, defBody sEq, defScope sEq, [], []⟩,
  ⟨("_law_draw", none), "_law_draw", "_law_draw", defArgs sDraw, defBody sDraw, defScope sDraw, [], []⟩,
  ⟨("_law_pen", none), "_law_pen", "_law_pen", defArgs sPen, defBody sPen, defScope sPen, [], []⟩,
  ⟨("_law_pick", none), "_law_pick", "_law_pick", defArgs sPick, defBody sPick, defScope sPick, [], []⟩,
  ⟨("_law_number", none), "_law_number", "_law_number", defArgs sNumber, defBody sNumber, defScope sNumber, [], []⟩,
  ⟨("_law_pair", none), "_law_pair", "_law_pair", defArgs sPair, defBody sPair, defScope sPair, [], []⟩,
  ⟨("_law_share", none), "_law_share", "_law_share", defArgs sShare, defBody sShare, defScope sShare, [], []⟩,
  ⟨("_law_lowest", none), "_law_lowest", "_law_lowest", defArgs sLowest, defBody sLowest, defScope sLowest, [], []⟩,
  ⟨("_law_order_right", none), "_law_order_right", "_law_order_right", defArgs sOrder, defBody sOrder, defScope sOrder, [], []⟩,
  ⟨("_law_rest_right", none), "_law_rest_right", "_law_rest_right", defArgs sRest, defBody sRest, defScope sRest, [], []⟩,
  ⟨("_law_bound", none), "_law_bound", "_law_bound", defArgs sBnd, defBody sBnd, defScope sBnd, [], []⟩,
  ⟨("law", none), "law", "law", defArgs sLaw, defBody sLaw, defScope sLaw, [], []⟩]
def fa : List He.Fa := [.glo "is_integer",
  .glo "parts_of",
  .glo "parts_over",
  .glo "Ratio",
  .glo "_law_draw",
  .glo "_law_pen",
  .glo "_law_pick",
  .glo "_law_number",
  .glo "_law_pair",
  .glo "_law_share",
  .glo "_law_lowest",
  .glo "_law_order_right",
  .glo "_law_rest_right",
  .glo "_law_bound",
  .glo "law",
  .free "int",
  .free "len",
  .free "abs",
  .free "bool",
  .free "isinstance",
  .free "range",
  .free "str",
  .free "list",
  .free "repr",
  .cls "Ratio",
  .mkr "Ratio",
  .noat "Ratio" "top",
  .noat "Ratio" "bottom",
  .noat "Ratio" (dunderI "floordiv"),
  .noat "Ratio" (dunderI "mod"),
  .meth "Ratio" "__sub__",
  .meth "Ratio" "__rsub__",
  .meth "Ratio" "__mul__",
  .meth "Ratio" "__rmul__",
  .meth "Ratio" "__floordiv__",
  .meth "Ratio" "__rfloordiv__",
  .meth "Ratio" "__mod__",
  .meth "Ratio" "__rmod__",
  .meth "Ratio" "__lt__",
  .meth "Ratio" "__le__",
  .meth "Ratio" "__gt__",
  .meth "Ratio" "__ge__",
  .meth "Ratio" "__eq__"]
def ex (K : Frag) : List Bool := [selfFirst K (He.ga K "Ratio"),
  He.eqO (findIn K (.ref (He.ga K "Ratio")) "__class__") (some (some (.builtin "object.__class__"))),
  He.eqO (specialIn K (.builtin "object.__class__") "__get__") (some (some (.builtin "getset_descriptor.__get__"))),
  decide (takesIn K (.builtin "object.__class__") = some true),
  decide (mroIn K (He.ga K "Ratio") (.type "object") = some true),
  twoMro K (He.ga K "Ratio"),
  decide (kitOne K (.ref (He.ga K "Ratio")) (.ref (He.ga K "Ratio")) = some true),
  decide (kitOne K (.type "int") (.ref (He.ga K "Ratio")) = some false),
  decide (kitOne K (.type "bool") (.ref (He.ga K "Ratio")) = some false),
  decide (kitOne K (.type "NoneType") (.ref (He.ga K "Ratio")) = some false),
  decide (kitOne K (.type "str") (.ref (He.ga K "Ratio")) = some false),
  decide (kitOne K (.type "tuple") (.ref (He.ga K "Ratio")) = some false),
  decide (kitOne K (.ref (He.ga K "Ratio")) (.type "int") = some false),
  decide (subIn K (.type "int") (.ref (He.ga K "Ratio")) = some false),
  decide (subIn K (.type "bool") (.ref (He.ga K "Ratio")) = some false),
  decide (subIn K (.ref (He.ga K "Ratio")) (.type "int") = some false),
  decide (subIn K (.ref (He.ga K "Ratio")) (.type "NoneType") = some false),
  decide (subIn K (.ref (He.ga K "Ratio")) (.type "str") = some false),
  decide (subIn K (.ref (He.ga K "Ratio")) (.type "tuple") = some false),
  He.eqO (findIn K (.ref (He.ga K "Ratio")) "__ne__") (some (some (.builtin "object.__ne__"))),
  He.eqO (nsIn K mainGlobals "gcd") (some (some (.builtin "math.gcd")))]
abbrev R : PySem.W.OpenRow := PySem.W.OpenLaw.row PySem.Challenge.rw_wordprices_k08_ratios_in_order
abbrev loose : List Str := (["_wall", "__name__", "FIGURES", "is_integer", "WordError", "ValueError", "BadInput", "BadRatio", "BadText", "parts_of", "parts_over", "Ratio", "figures_told", "parts_told", "_law_pen", "_law_draw", "_law_pick", "_law_share", "_law_lowest", "_law_number", "_law_pair", "_law_order_right", "_law_rest_right", "_law_bound"] : List Str)
abbrev hk : PySem.W.Hook := hookY 5 fa fn ex
def ob (s : PySem.W.SharedT) : AlY := obsY 5 fa fn ex (HandSHeadRun.getT s)
theorem ob_eq (s : PySem.W.SharedT) : ob s = hk.obs s.abs := obsY_eq (HandSHeadRun.getT_eq s)
theorem run (w : World) : HandSHeadRun.RunEqI R (PySem.W.view R.prog [0, 27]) hk ob 20000 loose w := by
  unfold HandSHeadRun.RunEqI
  kernel_rfl
theorem facts {P : Program} {w : World} {K : Frag} {h : Heap} {mg : Str → Option Value} {f : Addr} (X : K.In h) (G : h.Ns mainGlobals mg) (hfa : mg ("law" : Str) = some (.ref f)) (c : SaysY fa fn ex K) :
    ∃ fd : FuncData, (∀ (s : Shared) (v : Value), BindsTo s fd ⟨[v], []⟩ [("_law_script", v)]) ∧ ∀ base : Heap, K.In base → base.Ns mainGlobals mg → FnG P w K mg base 8 f fd ["_law_script"] (spLaw K) := by
  obtain ⟨fd_isInt, F_isInt⟩ := c.d.def_ 0 rfl
  obtain ⟨fd_parts, F_parts⟩ := c.d.def_ 1 rfl
  obtain ⟨fd_over1, F_over1⟩ := c.d.def_ 2 rfl
  obtain ⟨fd_init, F_init⟩ := c.d.def_ 3 rfl
  obtain ⟨fd_sub, F_sub⟩ := c.d.def_ 4 rfl
  obtain ⟨fd_mul, F_mul⟩ := c.d.def_ 5 rfl
  obtain ⟨fd_fd, F_fd⟩ := c.d.def_ 6 rfl
  obtain ⟨fd_mod, F_mod⟩ := c.d.def_ 7 rfl
  obtain ⟨fd_rfd, F_rfd⟩ := c.d.def_ 8 rfl
  obtain ⟨fd_rmod, F_rmod⟩ := c.d.def_ 9 rfl
  obtain ⟨fd_lt, F_lt⟩ := c.d.def_ 10 rfl
  obtain ⟨fd_le, F_le⟩ := c.d.def_ 11 rfl
  obtain ⟨fd_gt, F_gt⟩ := c.d.def_ 12 rfl
  obtain ⟨fd_ge, F_ge⟩ := c.d.def_ 13 rfl
  obtain ⟨fd_eq, F_eq⟩ := c.d.def_ 14 rfl
  obtain ⟨fd_draw, F_draw⟩ := c.d.def_ 15 rfl
  obtain ⟨fd_pen, F_pen⟩ := c.d.def_ 16 rfl
  obtain ⟨fd_pick, F_pick⟩ := c.d.def_ 17 rfl
  obtain ⟨fd_number, F_number⟩ := c.d.def_ 18 rfl
  obtain ⟨fd_pair, F_pair⟩ := c.d.def_ 19 rfl
  obtain ⟨fd_share, F_share⟩ := c.d.def_ 20 rfl
  obtain ⟨fd_lowest, F_lowest⟩ := c.d.def_ 21 rfl
  obtain ⟨fd_order, F_order⟩ := c.d.def_ 22 rfl
  obtain ⟨fd_rest, F_rest⟩ := c.d.def_ 23 rfl
  obtain ⟨fd_bnd, F_bnd⟩ := c.d.def_ 24 rfl
  obtain ⟨fd_law, F_law⟩ := c.d.def_ 25 rfl
  have g_is_integer := He.glo_ok X G (c.d.fact 0 (f := .glo "is_integer") rfl)
  have g_parts_of := He.glo_ok X G (c.d.fact 1 (f := .glo "parts_of") rfl)
  have g_parts_over := He.glo_ok X G (c.d.fact 2 (f := .glo "parts_over") rfl)
  have g_Ratio := He.glo_ok X G (c.d.fact 3 (f := .glo "Ratio") rfl)
  have g__law_draw := He.glo_ok X G (c.d.fact 4 (f := .glo "_law_draw") rfl)
  have g__law_pen := He.glo_ok X G (c.d.fact 5 (f := .glo "_law_pen") rfl)
  have g__law_pick := He.glo_ok X G (c.d.fact 6 (f := .glo "_law_pick") rfl)
  have g__law_number := He.glo_ok X G (c.d.fact 7 (f := .glo "_law_number") rfl)
  have g__law_pair := He.glo_ok X G (c.d.fact 8 (f := .glo "_law_pair") rfl)
  have g__law_share := He.glo_ok X G (c.d.fact 9 (f := .glo "_law_share") rfl)
  have g__law_lowest := He.glo_ok X G (c.d.fact 10 (f := .glo "_law_lowest") rfl)
  have g__law_order_right := He.glo_ok X G (c.d.fact 11 (f := .glo "_law_order_right") rfl)
  have g__law_rest_right := He.glo_ok X G (c.d.fact 12 (f := .glo "_law_rest_right") rfl)
  have g__law_bound := He.glo_ok X G (c.d.fact 13 (f := .glo "_law_bound") rfl)
  have g_law := He.glo_ok X G (c.d.fact 14 (f := .glo "law") rfl)
  have f_int : mg "int" = none := He.free_ok X G (c.d.fact 15 (f := .free "int") rfl)
  have f_len : mg "len" = none := He.free_ok X G (c.d.fact 16 (f := .free "len") rfl)
  have f_abs : mg "abs" = none := He.free_ok X G (c.d.fact 17 (f := .free "abs") rfl)
  have f_bool : mg "bool" = none := He.free_ok X G (c.d.fact 18 (f := .free "bool") rfl)
  have f_isinstance : mg "isinstance" = none := He.free_ok X G (c.d.fact 19 (f := .free "isinstance") rfl)
  have f_range : mg "range" = none := He.free_ok X G (c.d.fact 20 (f := .free "range") rfl)
  have f_str : mg "str" = none := He.free_ok X G (c.d.fact 21 (f := .free "str") rfl)
  have f_list : mg "list" = none := He.free_ok X G (c.d.fact 22 (f := .free "list") rfl)
  have f_repr : mg "repr" = none := He.free_ok X G (c.d.fact 23 (f := .free "repr") rfl)
  have cl_Ratio := He.cls_ok (c.d.fact 24 (f := .cls "Ratio") rfl)
  have mk_Ratio := He.mkr_ok (c.d.fact 25 (f := .mkr "Ratio") rfl)
  have n_0 := He.noat_ok (c.d.fact 26 (f := .noat "Ratio" "top") rfl)
  have n_1 := He.noat_ok (c.d.fact 27 (f := .noat "Ratio" "bottom") rfl)
  have n_2 := He.noat_ok (c.d.fact 28 (f := .noat "Ratio" (dunderI "floordiv")) rfl)
  have n_3 := He.noat_ok (c.d.fact 29 (f := .noat "Ratio" (dunderI "mod")) rfl)
  have m_Ratio_sub := He.meth_ok (c.d.fact 30 (f := .meth "Ratio" "__sub__") rfl)
  have m_Ratio_rsub := He.meth_ok (c.d.fact 31 (f := .meth "Ratio" "__rsub__") rfl)
  have m_Ratio_mul := He.meth_ok (c.d.fact 32 (f := .meth "Ratio" "__mul__") rfl)
  have m_Ratio_rmul := He.meth_ok (c.d.fact 33 (f := .meth "Ratio" "__rmul__") rfl)
  have m_Ratio_floordiv := He.meth_ok (c.d.fact 34 (f := .meth "Ratio" "__floordiv__") rfl)
  have m_Ratio_rfloordiv := He.meth_ok (c.d.fact 35 (f := .meth "Ratio" "__rfloordiv__") rfl)
  have m_Ratio_mod := He.meth_ok (c.d.fact 36 (f := .meth "Ratio" "__mod__") rfl)
  have m_Ratio_rmod := He.meth_ok (c.d.fact 37 (f := .meth "Ratio" "__rmod__") rfl)
  have m_Ratio_lt := He.meth_ok (c.d.fact 38 (f := .meth "Ratio" "__lt__") rfl)
  have m_Ratio_le := He.meth_ok (c.d.fact 39 (f := .meth "Ratio" "__le__") rfl)
  have m_Ratio_gt := He.meth_ok (c.d.fact 40 (f := .meth "Ratio" "__gt__") rfl)
  have m_Ratio_ge := He.meth_ok (c.d.fact 41 (f := .meth "Ratio" "__ge__") rfl)
  have m_Ratio_eq := He.meth_ok (c.d.fact 42 (f := .meth "Ratio" "__eq__") rfl)
  have Gl : Glb mg := ⟨f_int, f_len, f_abs, f_bool, f_isinstance, f_range, f_str, f_list, f_repr⟩
  have T : ClsRat K (He.ga K "Ratio") := ⟨⟨cl_Ratio, c.at 0, He.eqO_ok (c.at 1), He.eqO_ok (c.at 2), of_decide_eq_true (c.at 3), of_decide_eq_true (c.at 4)⟩, n_0, n_1, c.at 5, of_decide_eq_true (c.at 6), of_decide_eq_true (c.at 7), of_decide_eq_true (c.at 8), of_decide_eq_true (c.at 9), of_decide_eq_true (c.at 10), of_decide_eq_true (c.at 11), of_decide_eq_true (c.at 12), of_decide_eq_true (c.at 13), of_decide_eq_true (c.at 14), of_decide_eq_true (c.at 15), of_decide_eq_true (c.at 16), of_decide_eq_true (c.at 17), of_decide_eq_true (c.at 18), trivial⟩
  have gG : mg "gcd" = some (.builtin "math.gcd") := PySem.W.mg_of X G (He.eqO_ok (c.at 20))
  have key : ∀ base : Heap, FnG P w K mg base 8 (He.ga K "law") fd_law ["_law_script"] (spLaw K) := fun base => by
    have gI := gf_of F_isInt g_is_integer (ok_isInt (P := P) (w := w) (base := base) F_isInt Gl T) (fun _ _ _ _ _ _ us hl => match us, hl with | [_], _ => rfl)
    have gP := gf_of F_parts g_parts_of (ok_parts F_parts Gl T g_Ratio gI) (fun _ _ _ _ _ _ us hl => match us, hl with | [_], _ => rfl)
    have gO := gf_of F_over1 g_parts_over (ok_over1 F_over1 Gl T gP) (fun _ _ _ _ _ _ us hl => match us, hl with | [_], _ => rfl)
    have gR := gc_rat F_init Gl T mk_Ratio g_Ratio gI gG
    have gD := gf_of F_draw g__law_draw (ok_draw (P := P) (w := w) (base := base) F_draw Gl) (fun _ _ _ _ _ _ us hl => match us, hl with | [_, _], _ => rfl)
    have gPen := gf_of F_pen g__law_pen (ok_pen (P := P) (w := w) (base := base) F_pen Gl) (fun _ _ _ _ _ _ us hl => match us, hl with | [_], _ => rfl)
    have gPick := gf_of F_pick g__law_pick (ok_pick F_pick Gl gD) (fun _ _ _ _ _ _ us hl => match us, hl with | [_, _], _ => rfl)
    have gNum := gf_of F_number g__law_number (ok_number F_number gD gPick) (fun _ _ _ _ _ _ us hl => match us, hl with | [_], _ => rfl)
    have gPair := gf_of F_pair g__law_pair (ok_pair F_pair gNum) (fun _ _ _ _ _ _ us hl => match us, hl with | [_], _ => rfl)
    have gSh := gf_of F_share g__law_share (ok_share (P := P) (w := w) (base := base) F_share Gl) (fun _ _ _ _ _ _ us hl => match us, hl with | [_, _], _ => rfl)
    have gLow := gf_of F_lowest g__law_lowest (ok_lowest F_lowest gSh) (fun _ _ _ _ _ _ us hl => match us, hl with | [_, _], _ => rfl)
    have D : R8 P w K mg base (He.ga K "Ratio") := {
      G := Gl, T := T, gC := g_Ratio, gR := gR, low := gLow
      lt := ⟨_, m_Ratio_lt.at_, m_Ratio_lt.fn, fr_of F_lt (ok_lt F_lt Gl T gP) (fun _ _ _ _ _ _ us hl => match us, hl with | [_, _], _ => rfl)⟩
      le := ⟨_, m_Ratio_le.at_, m_Ratio_le.fn, fr_of F_le (ok_le F_le Gl T gP) (fun _ _ _ _ _ _ us hl => match us, hl with | [_, _], _ => rfl)⟩
      gt := ⟨_, m_Ratio_gt.at_, m_Ratio_gt.fn, fr_of F_gt (ok_gt F_gt Gl T gP) (fun _ _ _ _ _ _ us hl => match us, hl with | [_, _], _ => rfl)⟩
      ge := ⟨_, m_Ratio_ge.at_, m_Ratio_ge.fn, fr_of F_ge (ok_ge F_ge Gl T gP) (fun _ _ _ _ _ _ us hl => match us, hl with | [_, _], _ => rfl)⟩
      eq := ⟨_, m_Ratio_eq.at_, m_Ratio_eq.fn, fr_of F_eq (ok_eq F_eq Gl T g_Ratio gI) (fun _ _ _ _ _ _ us hl => match us, hl with | [_, _], _ => rfl)⟩
      keq := ⟨_, _, m_Ratio_eq.at_, m_Ratio_eq.fn, ok_eq F_eq Gl T g_Ratio gI, F_eq.bindsN (fun _ _ _ _ _ _ us hl => match us, hl with | [_, _], _ => rfl)⟩
      ne := He.eqO_ok (c.at 19)
      fd := ⟨_, _, ⟨m_Ratio_floordiv.at_, m_Ratio_floordiv.fn, m_Ratio_rfloordiv.at_, m_Ratio_rfloordiv.fn⟩, fr_of F_fd (ok_fd F_fd T gO) (fun _ _ _ _ _ _ us hl => match us, hl with | [_, _], _ => rfl)⟩
      md := ⟨_, _, ⟨m_Ratio_mod.at_, m_Ratio_mod.fn, m_Ratio_rmod.at_, m_Ratio_rmod.fn⟩, fr_of F_mod (ok_mod F_mod T gO gR) (fun _ _ _ _ _ _ us hl => match us, hl with | [_, _], _ => rfl)⟩
      rfd := ⟨_, _, ⟨m_Ratio_floordiv.at_, m_Ratio_floordiv.fn, m_Ratio_rfloordiv.at_, m_Ratio_rfloordiv.fn⟩, fr_of F_rfd (ok_rfd F_rfd T gP) (fun _ _ _ _ _ _ us hl => match us, hl with | [_, _], _ => rfl)⟩
      rmd := ⟨_, _, ⟨m_Ratio_mod.at_, m_Ratio_mod.fn, m_Ratio_rmod.at_, m_Ratio_rmod.fn⟩, fr_of F_rmod (ok_rmod F_rmod T gP gR) (fun _ _ _ _ _ _ us hl => match us, hl with | [_, _], _ => rfl)⟩
      sub := ⟨_, _, ⟨m_Ratio_sub.at_, m_Ratio_sub.fn, m_Ratio_rsub.at_, m_Ratio_rsub.fn⟩, fr_of F_sub (ok_sub F_sub T gP gO gR) (fun _ _ _ _ _ _ us hl => match us, hl with | [_, _], _ => rfl)⟩
      mul := ⟨_, _, ⟨m_Ratio_mul.at_, m_Ratio_mul.fn, m_Ratio_rmul.at_, m_Ratio_rmul.fn⟩, fr_of F_mul (ok_mul F_mul T gP gO gR) (fun _ _ _ _ _ _ us hl => match us, hl with | [_, _], _ => rfl)⟩
      ifd := n_2, imd := n_3 }
    have gOr := gg_of F_order g__law_order_right (ok_order F_order D) (fun _ _ _ _ _ _ us hl => match us, hl with | [_, _], _ => rfl)
    have gRe := gg_of F_rest g__law_rest_right (ok_rest F_rest D) (fun _ _ _ _ _ _ us hl => match us, hl with | [_, _], _ => rfl)
    have gB := gf_of F_bnd g__law_bound (ok_bnd F_bnd D) (fun _ _ _ _ _ _ us hl => match us, hl with | [_, _, _], _ => rfl)
    exact ok_law F_law D gPen gPair gNum gD gOr gRe gB
  have e := hfa.symm.trans g_law
  cases e
  have b := FunD.bindsA (ps := ["_law_script"]) F_law (fun _ _ _ _ _ _ us hl => match us, hl with | [_], _ => rfl)
  exact ⟨fd_law, fun s v => b s [v] rfl, fun base _ _ => key base⟩
end Wp
open PySem PySem.W PySem.Calls PyProof.Rows
theorem PySem.Challenge.cw_wordprices_k08_ratios_in_order_holds : PySem.Challenge.rw_wordprices_k08_ratios_in_order.Holds := by
  w_on; o_law
  refine HandSHeadRun.head_imp (r := OpenLaw.row PySem.Challenge.rw_wordprices_k08_ratios_in_order) (q := view (OpenLaw.row PySem.Challenge.rw_wordprices_k08_ratios_in_order).prog [0, 27]) (H := Wp.hk) (ob := Wp.ob) (M := 20000) (loose := Wp.loose) (d := HandSHeadRun.topDef (OpenLaw.row PySem.Challenge.rw_wordprices_k08_ratios_in_order).prog 27) (kwd := []) Wp.ob_eq
    Wp.run (by kernel_rfl) (by kernel_rfl) (by kernel_rfl) (by rfl) (by first | assumption | decide +kernel) (by decide +kernel) ⟨rfl, rfl, rfl, rfl, rfl, by decide +kernel⟩ ?hw ?hc
  case hw => w_witness2
  case hc =>
    refine Wp.walk_g (l := PySem.Challenge.rw_wordprices_k08_ratios_in_order) (n := 63) (k := 8) (x := "_law_script") rfl (by decide) (by kernel_rfl) ⟨rfl, by decide, by decide⟩ ?F
    · intro w mg fa h Y G hmg0
      obtain ⟨K, KX, c⟩ := Y
      have hmg : mg ("law" : PySem.Str) = some (.ref fa) := by
        have e : (HandSHeadRun.topDef (OpenLaw.row PySem.Challenge.rw_wordprices_k08_ratios_in_order).prog 27).name = ("law" : PySem.Str) := by kernel_rfl
        rw [← e]
        exact hmg0
      obtain ⟨fd, hb, hF⟩ := Wp.facts (P := (PySem.Challenge.rw_wordprices_k08_ratios_in_order).prog) (w := w) KX G hmg c
      exact ⟨K, fd, Wp.spLaw K, KX, hb, fun H a ns hl _ hS => ⟨a, ns, rfl, hS, hl, fun _ => rfl⟩, hF⟩

