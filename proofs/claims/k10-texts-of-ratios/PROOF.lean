import PyProof.Rows.All
import Wide.All
import OpenK.AllK
import Wide.FinOn
import HandS.ForMost
import HandS.ForExc
import HandS.Wide
import HandS.IsInst
import HandS.Gcd
import HandS.Defaults
import HandS.MakeKw
import HandS.MakeKwOnly
import HandS.Conv
import HandS.Star
import HandS.More
import HandS.FStr
import HandS.NoneIn
import HandS.Style
import HandS.OwnEq
import KE.KStateDown
import HandS.Head0
import HandS.Head1
import HandS.Head2
import HandS.Head3
import HandS.HeadEnd
import HandS.HeadHook1
import HandS.HeadHook2
import PyProof.ReprRoads
import HandS.Exc
import HandS.ExcValue
import HandS.ExcIs
import HandS.ExcField
import HandS.ExcInit
import KE.KExcIs
import HandS.Lambda
import HandS.Flow
import HandS.Property
import HandS.TupMul
import HandS.SortInts
import HandS.RaiseMore
import HandS.TupAny
import HandS.Comp
import HandS.Zip
import HandS.Codes
import HandS.Small
import HandS.Dict
import HandS.EndTab
import HandS.HeadHook4
import HandS.EndBits
import HandS.ClsMeth
import PyProof.ListStr
import HandS.HeadNt
import HandS.Set
import HandS.SetFor
import HandS.Strs
import HandS.Zip0
import PyProof.Rows.StrRev
import PySem.Challenge.RW_wordprices_k10_texts_of_ratios
set_option Elab.async false
set_option linter.all false
set_option maxRecDepth 100000
set_option maxHeartbeats 4000000
namespace Wp
open PySem L2
/-! ### heaps -/
/-- all that was tracked is as it was -/
def Ext (H H' : Hp) : Prop := ∀ b, H b ≠ none → H' b = H b
def ExtBut (p : Addr) (H H' : Hp) : Prop := ∀ b, H b ≠ none → b ≠ p → H' b = H b
theorem Ext.refl (H : Hp) : Ext H H := fun _ _ => rfl
theorem Ext.trans {H H1 H2 : Hp} (a : Ext H H1) (b : Ext H1 H2) : Ext H H2 := fun c h => by
  rw [b c (by rw [a c h]; exact h), a c h]
theorem Ext.at {H H' : Hp} {a : Addr} {o : HO} (e : Ext H H') (h : H a = some o) : H' a = some o := by rw [e a (by rw [h]; simp), h]
theorem Ext.free {H H' : Hp} {a : Addr} (e : Ext H H') (h : H' a = none) : H a = none := by
  cases q : H a with
  | none => rfl
  | some o => rw [e.at q] at h; cases h
theorem upd_at {H : Hp} {a : Addr} {o : HO} : upd H a o a = some o := upd_same
theorem upd_old {H : Hp} {q b : Addr} {o : HO} (hq : H q = none) (hb : H b ≠ none) : upd H q o b = H b := upd_ne (fun z => hb (by rw [z]; exact hq))
theorem upd_oth {H : Hp} {q b : Addr} {o : HO} (h : b ≠ q) : upd H q o b = H b := upd_ne h
theorem Ext.upd {H : Hp} {q : Addr} {o : HO} (hq : H q = none) : Ext H (upd H q o) := fun _ hb => upd_old hq hb
theorem Ext.upd' {H H' : Hp} {q : Addr} {o : HO} (e : Ext H H') (hq : H' q = none) : Ext H (L2.upd H' q o) := e.trans (Ext.upd hq)
theorem Ext.but {H H' : Hp} {p : Addr} (e : Ext H H') : ExtBut p H H' := fun b h _ => e b h
theorem ExtBut.trans {p : Addr} {H H1 H2 : Hp} (a : ExtBut p H H1) (b : ExtBut p H1 H2) : ExtBut p H H2 := fun c h n => by
  rw [b c (by rw [a c h n]; exact h) n, a c h n]
theorem ExtBut.at {p : Addr} {H H' : Hp} {a : Addr} {o : HO} (e : ExtBut p H H') (h : H a = some o) (n : a ≠ p) : H' a = some o := by rw [e a (by rw [h]; simp) n, h]
theorem ExtBut.upd {H H' : Hp} {p : Addr} {o : HO} (e : ExtBut p H H') : ExtBut p H (L2.upd H' p o) := fun b h n => by rw [upd_ne n, e b h n]
/-! ### own functions -/
/-- a def of the module, called by positions -/
def GF (P : Program) (w : World) (K : PySem.W.Frag) (mg : Str → Option Value) (base : Heap) (k : Nat) (x : Str) (sp : Sp) : Prop :=
  ∃ f, mg x = some (.ref f) ∧ PySem.W.keepIn K (.ref f) = true ∧ FnR P w K mg base (L2.CX P w) k f sp
/-- a class of the module, its __init__ by positions -/
def GC (P : Program) (w : World) (K : PySem.W.Frag) (mg : Str → Option Value) (base : Heap) (k : Nat) (x : Str) (C : Addr) (sp : Sp) : Prop :=
  ∃ f, mg x = some (.ref C) ∧ Mk K C f ∧ FnR P w K mg base (L2.CX P w) k f sp
/-- a method of the class at C, by positions (self first) -/
def GM (P : Program) (w : World) (K : PySem.W.Frag) (mg : Str → Option Value) (base : Heap) (k : Nat) (C : Addr) (m : Str) (sp : Sp) : Prop :=
  ∃ f, Cls K C ∧ Meth K C m f ∧ FnR P w K mg base (L2.CX P w) k f sp
section
variable {P : Program} {w : World} {K : PySem.W.Frag} {mg : Str → Option Value} {base : Heap} {CX : CXT} {k : Nat} {f : Addr} {fd : FuncData} {ps : List Str} {sp sp' : Sp}
theorem fnR_of (F : FnOk P w K mg base CX k f fd ps sp) (hb : Binds K fd ps []) : FnR P w K mg base CX k f sp := fun A outer s H us vs Q E hr e0 r h => by
  have hl := F.len _ _ _ _ h
  refine F.run A outer s H ⟨us, []⟩ us vs Q E hr e0 ?_ r h
  have q := hb s us (e0.mod.kin.keeps fun b o e => (e0.bs b o e).1) (by rw [List.append_nil, ← r.length]; exact hl)
  rw [List.append_nil] at q
  exact q
theorem fnR_dfl {dvs : List V} {ds : List Value} (F : FnOk P w K mg base CX k f fd ps sp) (hb : Binds K fd ps ds) (hd : Vals dvs ds) : FnR P w K mg base CX k f (fun vs H Q E => sp (vs ++ dvs) H Q E) := fun A outer s H us vs Q E hr e0 r h => by
  have hl := F.len _ _ _ _ h
  have r2 := r.append hd
  exact F.run A outer s H ⟨us, []⟩ (us ++ ds) (vs ++ dvs) Q E hr e0 (hb s us (e0.mod.kin.keeps fun b o e => (e0.bs b o e).1) (by rw [← r2.length]; exact hl)) r2 h
theorem FnR.or (F : FnR P w K mg base CX k f sp) (F' : FnR P w K mg base CX k f sp') : FnR P w K mg base CX k f (fun vs H Q E => sp vs H Q E ∨ sp' vs H Q E) := fun A outer s H us vs Q E hr e0 r h => by
  rcases h with h | h
  · exact F A outer s H us vs Q E hr e0 r h
  · exact F' A outer s H us vs Q E hr e0 r h
end
def tFn (sp : Sp) (E : XK) (t : TA) : TE := fun σ H Q => t σ H fun vs H1 => sp vs H1 Q E
def rMk (C : Addr) (sp : Sp) (E : XK) : List V → Hp → VK → Prop := fun vs H Q => ∀ x dx, H x = none → H dx = none → dx ≠ x →
  sp (.ref x :: vs) (upd (upd H dx (.own x)) x (.ins C dx [])) (fun v H2 => v = .non ∧ Q (.ref x) H2) E
def tMkU (C : Addr) (sp : Sp) (E : XK) (t : TA) : TE := fun σ H Q => t σ H fun vs H1 => rMk C sp E vs H1 Q
def insOf (C : Addr) (H : Hp) (x : V) (m : Str) : Prop := match x with
  | .ref a => (match H a with
    | some (.ins C' _ fs) => C' = C ∧ fs.lookup m = none
    | _ => False)
  | _ => False
def tMtU (C : Addr) (m : Str) (sp : Sp) (E : XK) (ta : TE) (t : TA) : TE := fun σ H Q => ta σ H fun x H1 => insOf C H1 x m ∧ t σ H1 fun vs H2 => sp (x :: vs) H2 Q E
theorem insOf_get {C : Addr} {H : Hp} {x : V} {m : Str} (h : insOf C H x m) : ∃ a dx fs, x = .ref a ∧ H a = some (.ins C dx fs) ∧ fs.lookup m = none := by
  unfold insOf at h
  split at h
  · split at h
    · obtain ⟨rfl, h⟩ := h
      exact ⟨_, _, _, rfl, by assumption, h⟩
    · exact h.elim
  · exact h.elim
section
variable {X : Cx} {k : Nat} {x m : Str} {C : Addr} {sp : Sp} {E : XK} {e o : Expr} {es : List Expr} {t : TA} {ta te : TE} {p pos apos : Pos}
theorem pe_fn (g : GF X.prog X.w X.K X.mg X.base k x sp) (hr : Room k X.A) (hx : Passes (L2.CX X.prog X.w) X E) (ha : PA X (e :: es) t) (hg : Gl X x := by rfl) (hdb : (x == ("__debug__" : Str)) = false := by decide)
    (he : starEach (e :: es) X.env = (false, eval e X.env) :: starEach es X.env := by rfl) (hpl : (backTo pos (starEach es X.env)).any (·.1) = false := by rfl) :
    PE X (.Call (.Name x p) (e :: es) [] pos) (tFn sp E t) := by
  obtain ⟨f, hm, hk, F⟩ := g
  refine ⟨fun pins s σ H Q I h => ?_⟩
  refine PySem.wpAny_Call_Name_kw (ld_glob I hg hm ?_ hdb)
  refine PySem.W.callWith_K (h₀ := X.base) I.ok.mod.kin hk (thn (ha.run pos pins s σ H _ I h) fun us s1 ⟨vs, H1, I1, r, q⟩ => ⟨I1.kIn, ?_⟩) he hpl
  exact wpAny_call (run_fnR F hr hx I1 r q)
theorem pe_mk (g : GC X.prog X.w X.K X.mg X.base k x C sp) (hr : Room (k + 1) X.A) (hx : Passes (L2.CX X.prog X.w) X E) (ha : PA X (e :: es) t) (hg : Gl X x := by rfl) (hdb : (x == ("__debug__" : Str)) = false := by decide)
    (he : starEach (e :: es) X.env = (false, eval e X.env) :: starEach es X.env := by rfl) (hpl : (backTo pos (starEach es X.env)).any (·.1) = false := by rfl) :
    PE X (.Call (.Name x p) (e :: es) [] pos) (tMkU C sp E t) := by
  obtain ⟨f, hm, M, F⟩ := g
  exact StX.pe_makeR M F hr hg hm hx ha hdb he hpl
end
/-! ### operators, by values -/
abbrev big (i : Int) : Prop := i.natAbs < 2 ^ 4000
def CMulU (i j : Int) : Prop := CMul i j ∨ (big i ∧ big j)
def CFd (_ j : Int) : Prop := j ≠ 0 ∧ j.natAbs < 2 ^ 8000
/-- by two ints -/
def r2i (g : Int → Int → Hp → VK → Prop) : R2 := fun x y H Q => match x, y with
  | .int i, .int j => g i j H Q
  | _, _ => False
theorem op_2i {X : Cx} {f : Value → Value → Sem Value} {C : Int → Int → Prop} {g : Int → Int → V} (h : OpR X f (rI C g)) : OpR X f (r2i fun i j H Q => C i j ∧ Q (g i j) H) := by
  intro pins s σ H x y v u Q I rx ry hq
  unfold r2i at hq
  split at hq
  · exact h pins s σ H _ _ v u Q I rx ry ⟨_, _, rfl, rfl, hq.1, hq.2⟩
  · exact hq.elim
theorem op_2i0 {X : Cx} {f : Value → Value → Sem Value} {g : Int → Int → V} (h : OpR X f (rI0 g)) : OpR X f (r2i fun i j H Q => Q (g i j) H) := by
  intro pins s σ H x y v u Q I rx ry hq
  unfold r2i at hq
  split at hq
  · exact h pins s σ H _ _ v u Q I rx ry ⟨_, _, rfl, rfl, hq⟩
  · exact hq.elim
section
variable {X : Cx}
theorem oAdd : OpR X (binaryOp .Add) (r2i fun i j H Q => Q (.int (i + j)) H) := op_2i0 op_add
theorem oSub : OpR X (binaryOp .Sub) (r2i fun i j H Q => Q (.int (i - j)) H) := op_2i0 op_sub
theorem oMul : OpR X (binaryOp .Mult) (r2i fun i j H Q => CMulU i j ∧ Q (.int (i * j)) H) := op_2i (opI fun _ _ _ _ _ _ _ hc q => by
  rcases hc with h | ⟨h1, h2⟩
  · exact PyProof.Rows.mul_int q h.ok
  · exact PyProof.Rows.mul_int q (wide_mul h1 h2 (by decide) (by decide) (by decide)).ok)
def CFp (_ j : Int) : Prop := 0 < j ∧ j.natAbs < 2 ^ 8000
theorem oFdiv : OpR X (binaryOp .FloorDiv) (r2i fun i j H Q => CFp i j ∧ Q (.int (i / j)) H) := op_2i (opI fun i j _ _ _ _ _ hc q => by
  have h1 : (0 : Int) < j := hc.1
  exact PyProof.Rows.floordiv_int (by omega) (by rw [Int.fdiv_eq_ediv_of_nonneg i (by omega)]; exact q) (.inl (PyProof.noPylong_of_log2 (Nat.lt_of_lt_of_le (PySem.Flt.log2_lt_of (by decide) hc.2) (by decide)))))
theorem oMod : OpR X (binaryOp .Mod) (r2i fun i j H Q => 0 < j ∧ Q (.int (i % j)) H) := op_2i op_mod
theorem oFdivN : OpR X (binaryOp .FloorDiv) (r2i fun i j H Q => CFd i j ∧ Q (.int (i.fdiv j)) H) := op_2i (opI fun i j _ _ _ _ _ hc q =>
  PyProof.Rows.floordiv_int hc.1 q (.inl (PyProof.noPylong_of_log2 (Nat.lt_of_lt_of_le (PySem.Flt.log2_lt_of (by decide) hc.2) (by decide)))))
theorem oModN : OpR X (binaryOp .Mod) (r2i fun i j H Q => j ≠ 0 ∧ Q (.int (i.fmod j)) H) := op_2i op_modN
theorem oPow : OpR X (binaryOp .Pow) (r2i fun i j H Q => CPow i j ∧ Q (.int (i ^ j.toNat)) H) := op_2i op_pow
theorem oLt : OpR X (compareOp .Lt) (r2i fun i j H Q => Q (.bl (decide (i < j))) H) := op_2i0 op_lt
theorem oLe : OpR X (compareOp .LtE) (r2i fun i j H Q => Q (.bl (decide (i ≤ j))) H) := op_2i0 op_le
theorem oGt : OpR X (compareOp .Gt) (r2i fun i j H Q => Q (.bl (decide (j < i))) H) := op_2i0 op_gt
theorem oGe : OpR X (compareOp .GtE) (r2i fun i j H Q => Q (.bl (decide (j ≤ i))) H) := op_2i0 op_ge
end
theorem cfp {i j : Int} (h : 0 < j) (h2 : j < 18446744073709551616) : CFp i j := ⟨h, Nat.lt_of_lt_of_le (show j.natAbs < 2 ^ 64 by omega) (Nat.pow_le_pow_right (by decide) (by decide))⟩
theorem cmulL {i j : Int} (h : -18446744073709551616 < i) (h2 : i < 18446744073709551616) : CMulU i j := .inl (.inl ⟨h, h2⟩)
theorem cmulR {i j : Int} (h : -18446744073709551616 < j) (h2 : j < 18446744073709551616) : CMulU i j := .inl (.inr ⟨h, h2⟩)
theorem cpow {i j : Int} (h : -18446744073709551616 < i) (h2 : i < 18446744073709551616) (h3 : 0 ≤ j) (h4 : j ≤ 1000000) : CPow i j := ⟨h3, h4, by omega⟩
theorem cpow2 {i j : Int} (h : -18446744073709551616 < i ∧ i < 18446744073709551616) (h3 : 0 ≤ j) (h4 : j ≤ 1000000) : CPow i j := ⟨h3, h4, by omega⟩
theorem great_nn {c : Int} {e : Bool} (h : 1000000000000000000 ≤ if c < 0 then -c else c) : 0 ≤ 2 * ((if c < 0 then -c else c) - 1000000000000000000) + if e = true then 1 else 0 := by
  have : (0 : Int) ≤ if e = true then 1 else 0 := by split <;> decide
  omega
/-! ### sequences that are tracked -/
def rdL (H : Hp) (p : Addr) : Option (List V) := match H p with
  | some (.lst xs) => some xs
  | some (.frz _ (.lst xs)) => some xs
  | _ => none
def rdT (H : Hp) (p : Addr) : Option (List V) := match H p with
  | some (.tup xs) => some xs
  | some (.frz _ (.tup xs)) => some xs
  | _ => none
def rdS (H : Hp) (p : Addr) : Option (List V) := match H p with
  | some (.lst xs) => some xs
  | some (.frz _ (.lst xs)) => some xs
  | some (.tup xs) => some xs
  | some (.frz _ (.tup xs)) => some xs
  | _ => none
theorem rdL_sq {K : PySem.W.Frag} {H : Hp} {p : Addr} {xs : List V} (h : rdL H p = some xs) : SqL K H p xs := by
  unfold rdL at h
  split at h
  · cases h; exact .inl (.inl (by assumption))
  · cases h; exact .inl (.inr ⟨_, by assumption⟩)
  · cases h
theorem rdS_sq {K : PySem.W.Frag} {H : Hp} {p : Addr} {xs : List V} (h : rdS H p = some xs) : SqL K H p xs ∨ SqT K H p xs := by
  unfold rdS at h
  split at h
  · cases h; exact .inl (.inl (.inl (by assumption)))
  · cases h; exact .inl (.inl (.inr ⟨_, by assumption⟩))
  · cases h; exact .inr (.inl (.inl (by assumption)))
  · cases h; exact .inr (.inl (.inr ⟨_, by assumption⟩))
  · cases h
/-- x[i] -/
def rIxU : R2 := fun x y H Q => match x, y with
  | .ref p, .int i => (match rdS H p with
    | some xs => (match atI xs i with
      | some v => Q v H
      | none => False)
    | none => False)
  | .str z, .int i => z.length ≤ sizeLine ∧ (match atI z.cps.toList i with
    | some c => Q (.str ⟨#[c]⟩) H
    | none => False)
  | _, _ => False
theorem oIx {X : Cx} : IxR X rIxU := by
  intro value slice pins s σ H x y v u Q I rx ry h hs
  unfold rIxU at h
  split at h
  · split at h
    · split at h
      · rename_i h1 _ _ h2
        rcases rdS_sq (K := X.K) h1 with q | q
        · exact ix_list value slice pins s σ H _ _ v u Q I rx ry ⟨_, _, _, _, rfl, rfl, q, h2, h⟩ hs
        · exact ix_tup value slice pins s σ H _ _ v u Q I rx ry ⟨_, _, _, _, rfl, rfl, q, h2, h⟩ hs
      · exact h.elim
    · exact h.elim
  · obtain ⟨hz, h⟩ := h
    split at h
    · rename_i h2
      exact ix_str value slice pins s σ H _ _ v u Q I rx ry ⟨_, _, _, rfl, rfl, hz, h2, h⟩ hs
    · exact h.elim
  · exact h.elim
/-- o[i] = v of a list -/
def rSetU : V → V → V → Hp → (Hp → Prop) → Prop := fun o i v H Q => match o, i with
  | .ref p, .int k => (match H p with
    | some (.lst xs) => (match ixN xs.length k with
      | some j => Q (upd H p (.lst (xs.set j v)))
      | none => False)
    | _ => False)
  | _, _ => False
theorem oSet {X : Cx} : PSet X rSetU := by
  intro pins s σ H o i v ov iv u Q I ro ri rv h
  unfold rSetU at h
  split at h
  · split at h
    · split at h
      · exact set_list pins s σ H _ _ v ov iv u Q I ro ri rv ⟨_, _, _, _, rfl, rfl, by assumption, by assumption, h⟩
      · exact h.elim
    · exact h.elim
  · exact h.elim
/-! ### deep data -/
mutual
def toD (H : Hp) : Nat → V → Option PyData
  | _, .non => some .none
  | _, .bl b => some (.bool b)
  | _, .int i => some (.int i)
  | _, .str x => if PyData.strOk x = true then some (.str x) else none
  | n + 1, .ref p => (match H p with
    | some (.lst xs) => (toDs H n xs).map .list
    | some (.frz _ (.lst xs)) => (toDs H n xs).map .list
    | some (.tup xs) => (toDs H n xs).map .tuple
    | some (.frz _ (.tup xs)) => (toDs H n xs).map .tuple
    | _ => none)
  | _, _ => none
termination_by n _ => (n, 0)
def toDs (H : Hp) : Nat → List V → Option (List PyData)
  | _, [] => some []
  | n, v :: vs => (match toD H n v, toDs H n vs with
    | some d, some ds => some (d :: ds)
    | _, _ => none)
termination_by n vs => (n, vs.length + 1)
end
theorem toDs_ok {K : PySem.W.Frag} {H : Hp} {n : Nat} (ih : ∀ v d, toD H n v = some d → Dp K H v d ∧ PyData.canLay0 d = true ∧ PyData.depth d ≤ n) :
    ∀ vs ds, toDs H n vs = some ds → DpAll K H vs ds ∧ PyData.canLayAll0 ds = true ∧ PyData.depthAll ds ≤ n
  | [], ds, h => by
    rw [toDs] at h
    cases h
    exact ⟨.nil, rfl, Nat.zero_le _⟩
  | v :: vs, ds, h => by
    rw [toDs] at h
    split at h
    · rename_i d ds' h1 h2
      cases h
      obtain ⟨a1, a2, a3⟩ := ih v d h1
      obtain ⟨b1, b2, b3⟩ := toDs_ok ih vs ds' h2
      refine ⟨.cons a1 b1, ?_, ?_⟩
      · rw [PyData.canLayAll0, a2, b2] <;> rfl
      · rw [PyData.depthAll]; exact Nat.max_le.mpr ⟨a3, b3⟩
    · cases h
theorem toD_flat {K : PySem.W.Frag} {H : Hp} {n : Nat} {v : V} {d : PyData} (hv : ∀ p, v ≠ .ref p) (h : toD H n v = some d) : Dp K H v d ∧ PyData.canLay0 d = true ∧ PyData.depth d ≤ n := by
  cases v with
  | non => simp only [toD, Option.some.injEq] at h; subst h; exact ⟨.non, rfl, Nat.zero_le _⟩
  | bl b => simp only [toD, Option.some.injEq] at h; subst h; exact ⟨.bl _, rfl, Nat.zero_le _⟩
  | int i => simp only [toD, Option.some.injEq] at h; subst h; exact ⟨.int _, rfl, Nat.zero_le _⟩
  | str x =>
    simp only [toD] at h
    split at h
    · cases h
      rename_i hx
      refine ⟨.str _, ?_, Nat.zero_le _⟩
      rw [PyData.canLay0]; exact hx
    · cases h
  | ref p => exact absurd rfl (hv p)
  | byt b => simp only [toD] at h; cases h
  | flt b => simp only [toD] at h; cases h
  | ty b => simp only [toD] at h; cases h
theorem toD_ok {K : PySem.W.Frag} {H : Hp} : ∀ (n : Nat) (v : V) (d : PyData), toD H n v = some d → Dp K H v d ∧ PyData.canLay0 d = true ∧ PyData.depth d ≤ n := by
  intro n
  induction n with
  | zero =>
    intro v d h
    by_cases hv : ∃ p, v = .ref p
    · obtain ⟨p, rfl⟩ := hv
      simp only [toD] at h; cases h
    · exact toD_flat (fun p z => hv ⟨p, z⟩) h
  | succ n ih =>
    intro v d h
    by_cases hv : ∃ p, v = .ref p
    · obtain ⟨p, rfl⟩ := hv
      simp only [toD] at h
      split at h
      · rename_i xs hp
        cases q : toDs H n xs with
        | none => rw [q] at h; cases h
        | some ds =>
          rw [q] at h; cases h
          obtain ⟨b1, b2, b3⟩ := toDs_ok ih xs ds q
          exact ⟨.lst (.inl (.inl hp)) b1, by rw [PyData.canLay0]; exact b2, by rw [PyData.depth]; exact Nat.succ_le_succ b3⟩
      · rename_i o xs hp
        cases q : toDs H n xs with
        | none => rw [q] at h; cases h
        | some ds =>
          rw [q] at h; cases h
          obtain ⟨b1, b2, b3⟩ := toDs_ok ih xs ds q
          exact ⟨.lst (.inl (.inr ⟨_, hp⟩)) b1, by rw [PyData.canLay0]; exact b2, by rw [PyData.depth]; exact Nat.succ_le_succ b3⟩
      · rename_i xs hp
        cases q : toDs H n xs with
        | none => rw [q] at h; cases h
        | some ds =>
          rw [q] at h; cases h
          obtain ⟨b1, b2, b3⟩ := toDs_ok ih xs ds q
          exact ⟨.tup (.inl (.inl hp)) b1, by rw [PyData.canLay0]; exact b2, by rw [PyData.depth]; exact Nat.succ_le_succ b3⟩
      · rename_i o xs hp
        cases q : toDs H n xs with
        | none => rw [q] at h; cases h
        | some ds =>
          rw [q] at h; cases h
          obtain ⟨b1, b2, b3⟩ := toDs_ok ih xs ds q
          exact ⟨.tup (.inl (.inr ⟨_, hp⟩)) b1, by rw [PyData.canLay0]; exact b2, by rw [PyData.depth]; exact Nat.succ_le_succ b3⟩
      · cases h
    · exact toD_flat (fun p z => hv ⟨p, z⟩) h
/-- == of data -/
def rEqU : R2 := fun x y H Q => match toD H 8 x, toD H 8 y with
  | some d, some e => Q (.bl (PyData.eqv d e)) H
  | _, _ => False
def rNeU : R2 := fun x y H Q => match toD H 8 x, toD H 8 y with
  | some d, some e => Q (.bl (!PyData.eqv d e)) H
  | _, _ => False
theorem shaped_of {d : PyData} (h : PyData.canLay0 d = true) (h2 : PyData.depth d ≤ 8) : SeqAt.shaped d = true := by
  unfold SeqAt.shaped
  rw [h, Bool.true_and]
  exact decide_eq_true (Nat.le_trans h2 (by decide))
theorem oEq {X : Cx} (hu : X.A.units + 64 < cLine) : OpR X (compareOp .Eq) rEqU := by
  intro pins s σ H x y v u Q I rx ry h
  unfold rEqU at h
  split at h
  · rename_i d e h1 h2
    obtain ⟨a1, a2, a3⟩ := toD_ok (K := X.K) _ _ _ h1
    obtain ⟨b1, b2, b3⟩ := toD_ok (K := X.K) _ _ _ h2
    exact op_eqD hu pins s σ H x y v u Q I rx ry ⟨d, e, a1, b1, shaped_of a2 a3, shaped_of b2 b3, h⟩
  · exact h.elim
theorem oNe {X : Cx} (hu : X.A.units + 64 < cLine) : OpR X (compareOp .NotEq) rNeU := by
  intro pins s σ H x y v u Q I rx ry h
  unfold rNeU at h
  split at h
  · rename_i d e h1 h2
    obtain ⟨a1, a2, a3⟩ := toD_ok (K := X.K) _ _ _ h1
    obtain ⟨b1, b2, b3⟩ := toD_ok (K := X.K) _ _ _ h2
    exact op_neD hu pins s σ H x y v u Q I rx ry ⟨d, e, a1, b1, shaped_of a2 a3, shaped_of b2 b3, h⟩
  · exact h.elim
/-! ### more built-ins -/
def rLenU : List V → Hp → VK → Prop := fun vs H Q => match vs with
  | [.str z] => z.length ≤ sizeLine ∧ Q (.int z.length) H
  | [.ref p] => (match rdS H p with
    | some xs => Q (.int xs.length) H
    | none => False)
  | _ => False
theorem cLen {X : Cx} : CallR X (.builtin "len") rLenU := by
  intro pins s σ H xs us Q I r h
  unfold rLenU at h
  split at h
  · exact call_len pins s σ H _ us Q I r ⟨_, _, rfl, ⟨h.1, rfl⟩, h.2⟩
  · split at h
    · rename_i h1
      rcases rdS_sq (K := X.K) h1 with q | q
      · exact call_len pins s σ H _ us Q I r ⟨_, _, rfl, .inl ⟨_, q, rfl⟩, h⟩
      · exact call_len pins s σ H _ us Q I r ⟨_, _, rfl, .inr ⟨_, q, rfl⟩, h⟩
    · exact h.elim
  · exact h.elim
def rIntU : List V → Hp → VK → Prop := fun vs H Q => match vs with
  | [.int i] => Q (.int i) H
  | [.bl b] => Q (.int (if b then 1 else 0)) H
  | _ => False
theorem cInt {X : Cx} : CallR X (.type "int") rIntU := by
  intro pins s σ H xs us Q I r h
  unfold rIntU at h
  split at h
  · exact call_int1 pins s σ H _ us Q I r (.inl ⟨_, rfl, h⟩)
  · exact call_int1 pins s σ H _ us Q I r (.inr ⟨_, rfl, h⟩)
  · exact h.elim
def rAbsU : List V → Hp → VK → Prop := fun vs H Q => match vs with
  | [.int i] => Q (.int (if i < 0 then -i else i)) H
  | _ => False
theorem cAbs {X : Cx} : CallR X (.builtin "abs") rAbsU := by
  intro pins s σ H xs us Q I r h
  unfold rAbsU at h
  split at h
  · exact call_abs pins s σ H _ us Q I r ⟨_, rfl, h⟩
  · exact h.elim
def rBoolU : List V → Hp → VK → Prop := fun vs H Q => match vs with
  | [.int i] => Q (.bl (i != 0)) H
  | [.bl b] => Q (.bl b) H
  | _ => False
theorem cBool {X : Cx} : CallR X (.type "bool") rBoolU := by
  intro pins s σ H xs us Q I r h
  unfold rBoolU at h
  split at h
  · exact call_bool1 pins s σ H _ us Q I r (.inl ⟨_, rfl, h⟩)
  · exact call_bool1 pins s σ H _ us Q I r (.inr ⟨_, rfl, h⟩)
  · exact h.elim
/-- {e} in an f-string -/
def rFmt : V → Hp → VK → Prop := fun x H Q => match x with
  | .str y => y.length ≤ sizeLine ∧ Q (.str y) H
  | .int i => i.natAbs.log2 < 1920 ∧ Q (.str (toString i)) H
  | _ => False
def tFmtU (te : TE) : TE := fun σ H Q => te σ H fun x H1 => rFmt x H1 Q
theorem pe_fmtU {X : Cx} {e : Expr} {te : TE} {pos : Pos} (he : PE X e te) : PE X (.FormattedValue e (-1) none pos) (tFmtU te) := by
  refine ⟨fun pins s σ H Q I h => ?_⟩
  refine wpAny_FormattedValue_plain (thn (he.run pins s σ H _ I h) fun v s1 hv => ?_)
  obtain ⟨x, H1, I1, r1, q⟩ := hv
  have q : rFmt x H1 Q := q
  unfold rFmt at q
  split at q
  · obtain ⟨t, rfl⟩ := r1
    exact wpAny_formatField_str ⟨.str _, H1, I1, ⟨t, rfl⟩, q.2⟩ ⟨.str _, H1, I1.tok _, ⟨_, rfl⟩, q.2⟩ q.1
  · obtain ⟨t, rfl⟩ := r1
    exact PySem.wpAny_formatField_int q.1 ⟨.str _, H1, I1.tok _, ⟨_, rfl⟩, q.2⟩
  · exact q.elim
/-- the pieces of an f-string, one behind the other -/
def rJs (acc : Str) (x : V) (k : Str → Prop) : Prop := match x with
  | .str y => (acc ++ y).length ≤ sizeLine ∧ k (acc ++ y)
  | _ => False
def tJsU : List TE → Str → St → Hp → (Str → Hp → Prop) → Prop
  | [], acc, _, H, Q => Q acc H
  | t :: ts, acc, σ, H, Q => t σ H fun x H1 => rJs acc x fun acc' => tJsU ts acc' σ H1 Q
theorem pe_joinedU {X : Cx} {v1 v2 : Expr} {rest : List Expr} {ts : List TE} {pos : Pos} (h : PJ X (v1 :: v2 :: rest) ts) : PE X (.JoinedStr (v1 :: v2 :: rest) pos) (fun σ H Q => tJsU ts Str.empty σ H fun out H1 => Q (.str out) H1) := by
  have conv : ∀ {es : List Expr} {ts : List TE}, PJ X es ts → ∃ us : List TE, PJ X es us ∧ ∀ acc σ H Q, tJsU ts acc σ H Q → tJs us acc σ H Q := by
    intro es ts h
    induction h with
    | nil => exact ⟨[], .nil, fun acc σ H Q h => h⟩
    | @cons e t es ts he r ih =>
      obtain ⟨us, hu, hc⟩ := ih
      refine ⟨(fun σ H Q => ∃ (acc : Str) (k : Str → Hp → Prop), t σ H (fun x H1 => rJs acc x fun acc' => k acc' H1) ∧ ∀ y H1, (acc ++ y).length ≤ sizeLine → k (acc ++ y) H1 → Q (.str y) H1) :: us, .cons ⟨fun pins s σ H Q I h => ?_⟩ hu, fun acc σ H Q h => ?_⟩
      · obtain ⟨acc, k, h, hk⟩ := h
        refine thn (he.run pins s σ H _ I h) fun v s1 hv => ?_
        obtain ⟨x, H1, I1, r1, q⟩ := hv
        have q : rJs acc x fun acc' => k acc' H1 := q
        unfold rJs at q
        split at q
        · exact ⟨_, H1, I1, r1, hk _ _ q.1 q.2⟩
        · exact q.elim
      · exact ⟨acc, fun acc' H1 => tJsU ts acc' σ H1 Q, h, fun y H1 hl hk => ⟨y, rfl, hl, hc _ _ _ _ hk⟩⟩
  obtain ⟨us, hu, hc⟩ := conv h
  exact ⟨fun pins s σ H Q I h => (pe_joined hu).run pins s σ H Q I (hc _ _ _ _ h)⟩
/-- e.f of an own instance -/
def rFld (K : PySem.W.Frag) (f : Str) : V → Hp → VK → Prop := fun x H Q => match x with
  | .ref a => (match H a with
    | some (.ins C _ fs) => Cls K C ∧ NoAttr K C f ∧ (match fs.lookup f with
      | some v => Q v H
      | none => False)
    | _ => False)
  | _ => False
def tFldU (K : PySem.W.Frag) (f : Str) (ta : TE) : TE := fun σ H Q => ta σ H fun x H1 => rFld K f x H1 Q
theorem rFld_get {K : PySem.W.Frag} {f : Str} {x : V} {H : Hp} {Q : VK} (h : rFld K f x H Q) : ∃ a C dx fs v, x = .ref a ∧ H a = some (.ins C dx fs) ∧ Cls K C ∧ NoAttr K C f ∧ fs.lookup f = some v ∧ Q v H := by
  unfold rFld at h
  split at h
  · split at h
    · obtain ⟨c, n, h⟩ := h
      split at h
      · exact ⟨_, _, _, _, _, rfl, by assumption, c, n, by assumption, h⟩
      · exact h.elim
    · exact h.elim
  · exact h.elim
theorem pe_fldU {X : Cx} {K : PySem.W.Frag} {e : Expr} {f : Str} {pos : Pos} {ta : TE} (he : PE X e ta) (hK : X.K = K := by rfl) (hb : attributeBase e f X.env (eval e X.env) = eval e X.env := by rfl) : PE X (.Attribute e f pos) (tFldU K f ta) := by
  subst hK
  refine ⟨fun pins s σ H Q I h => ?_⟩
  refine attr_of hb (thn (he.run pins s σ H _ I h) fun u s1 ⟨x, H1, I1, rx, q⟩ => ?_)
  obtain ⟨a, C, dx, fs, v, rfl, ea, c, n, l, q⟩ := rFld_get q
  obtain rfl : u = Value.ref a := rx
  exact getattr_ok I1 ea c n l fun u' s2 I2 ru => ⟨v, H1, I2, ru, q⟩
/-- o.f = e -/
def rSetF (K : PySem.W.Frag) (f : Str) : V → V → Hp → (Hp → Prop) → Prop := fun x y H R => match x with
  | .ref a => (match H a with
    | some (.ins C dx fs) => Cls K C ∧ NoAttr K C f ∧ fs.length < 1000 ∧ R (upd H a (.ins C dx (putF f y fs)))
    | _ => False)
  | _ => False
def tSetF (K : PySem.W.Frag) (f : Str) (ta tv : TE) : TS := fun D σ H => tv σ H fun y H1 => ta σ H1 fun x H2 => rSetF K f x y H2 fun H3 => D.nx σ H3
theorem ps_fldU {X : Cx} {K : PySem.W.Frag} {o value : Expr} {f : Str} {pos pos' : Pos} {ta tv : TE} (ha : PE X o ta) (hv : PE X value tv) (hK : X.K = K := by rfl) (hs : swapsWith value (some (.Attribute o f pos')) pos.line X.env = pure false := by rfl) : PS X (.Assign [.Attribute o f pos'] value pos) (tSetF K f ta tv) := by
  subst hK
  refine ⟨fun pins s σ H D I h => ?_⟩
  refine plainObj_wpAny_Assign_Attribute (thn (hv.run pins s σ H _ I h) fun u s1 ⟨y, H1, I1, ry, q⟩ => thn (ha.run pins s1 σ H1 _ I1 q) fun ov s2 ⟨x, H2, I2, rx, q2⟩ => ?_) hs
  have q2 : rSetF X.K f x y H2 fun H3 => D.nx σ H3 := q2
  unfold rSetF at q2
  split at q2
  · split at q2
    · obtain ⟨c, n, l, q2⟩ := q2
      rename_i ea
      obtain rfl : ov = Value.ref _ := rx
      exact setattr_ok I2 ea c n l ry fun s3 I3 => ⟨σ, _, I3, q2⟩
    · exact q2.elim
  · exact q2.elim
/-! ### a tuple or a list unpacked -/
def rUnp (n : Nat) (v : V) (H : Hp) (k : List V → Prop) : Prop := match v with
  | .ref p => (match H p with
    | some (.tup xs) => xs.length = n ∧ k xs
    | some (.lst xs) => xs.length = n ∧ k xs
    | _ => False)
  | _ => False
def gUnpU (n : Nat) (t : TGs) : TG := fun v σ H Q => rUnp n v H fun xs => t xs σ H Q
theorem pg_unpU {X : Cx} {es : List Expr} {k : Nat} {pos : Pos} {n : Nat} {t : TGs} (hc : X.calm = true) (h : PGs X es t) (hn : (assignEach es X.env).length = n := by rfl) (hst : (assignEach es X.env).findIdx? (·.1) = none := by rfl) : PG X (.Tuple es k pos) (gUnpU n t) := by
  refine ⟨fun pins s σ H v u Q I r hw => ?_⟩
  have hw : rUnp n v H fun xs => t xs σ H Q := hw
  unfold rUnp at hw
  split at hw
  · split at hw
    · rename_i e
      exact (pg_tup (k := k) (pos := pos) hc h hn hst).run pins s σ H _ u Q I r ⟨_, _, rfl, SqT.of e, hw.1, hw.2⟩
    · rename_i e
      exact (pg_unl (k := k) (pos := pos) hc h hn hst).run pins s σ H _ u Q I r ⟨_, _, rfl, SqL.of e, hw.1, hw.2⟩
    · exact hw.elim
  · exact hw.elim
/-! ### what a reading comes to -/
section
variable {σ : St} {H : Hp} {Q : VK} {D : Ends}
def kB (k : Bool → Hp → Prop) : VK := fun x H => match x with
  | .bl b => k b H
  | _ => False
theorem e_test {te : TE} {k : Bool → Hp → Prop} (h : te σ H (kB k)) (m : ∀ Q Q' : VK, (∀ v H, Q v H → Q' v H) → te σ H Q → te σ H Q') : tTest te σ H k := by
  refine m _ _ (fun v H' q => ?_) h
  unfold kB at q
  split at q
  · exact ⟨_, rfl, q⟩
  · exact q.elim
theorem e_bl {c : Bool} {k : Bool → Prop} : (∃ d, V.bl c = .bl d ∧ k d) = k c := by
  apply propext; constructor
  · rintro ⟨d, h, q⟩; cases h; exact q
  · intro q; exact ⟨c, rfl, q⟩
theorem e_var {i : Nat} {v : V} (h : σ[i]? = some (some v)) : tVar i σ H Q = Q v H := by
  apply propext; constructor
  · rintro ⟨a, e, q⟩; rw [h] at e; cases e; exact q
  · intro q; exact ⟨v, h, q⟩
theorem e_v0 {v : V} {r : St} : tVar 0 (some v :: r) H Q = Q v H := e_var rfl
theorem e_v1 {v : V} {a : Option V} {r : St} : tVar 1 (a :: some v :: r) H Q = Q v H := e_var rfl
theorem e_v2 {v : V} {a b : Option V} {r : St} : tVar 2 (a :: b :: some v :: r) H Q = Q v H := e_var rfl
theorem e_v3 {v : V} {a b c : Option V} {r : St} : tVar 3 (a :: b :: c :: some v :: r) H Q = Q v H := e_var rfl
theorem e_v4 {v : V} {a b c d : Option V} {r : St} : tVar 4 (a :: b :: c :: d :: some v :: r) H Q = Q v H := e_var rfl
theorem e_vs {i : Nat} {a : Option V} {r : St} : tVar (i + 1) (a :: r) H Q = tVar i r H Q := rfl
theorem e_set0 {a : Option V} {v : Option V} {r : St} : List.set (a :: r) 0 v = v :: r := rfl
theorem e_setS {i : Nat} {a : Option V} {v : Option V} {r : St} : List.set (a :: r) (i + 1) v = a :: List.set r i v := rfl
theorem at0 {α : Type} {a : α} {r : List α} : atI (a :: r) 0 = some a := by
  unfold atI ixN
  rw [if_pos (Int.le_refl 0), if_pos (by simp only [List.length_cons]; omega)] <;> rfl
theorem at1 {α : Type} {a b : α} {r : List α} : atI (a :: b :: r) 1 = some b := by
  unfold atI ixN
  rw [if_pos (by decide), if_pos (by simp only [List.length_cons]; omega)] <;> rfl
theorem at2 {α : Type} {a b c : α} {r : List α} : atI (a :: b :: c :: r) 2 = some c := by
  unfold atI ixN
  rw [if_pos (by decide), if_pos (by simp only [List.length_cons]; omega)] <;> rfl
theorem atN {α : Type} {l : List α} {i : Int} {v : α} (h0 : 0 ≤ i) (h : l[i.toNat]? = some v) : atI l i = some v := by
  have e : i = ((i.toNat : Nat) : Int) := by omega
  rw [e]; exact atI_nat h
theorem cxK {CX : CXT} {P : Program} {w : World} {K : PySem.W.Frag} {mg : Str → Option Value} {base : Heap} {N : List Str} {qual : Str} {scope : Scope} {f : Addr} {cd : Value} {A : Around} {outer : List Env} {s : Shared} {H : Hp} {E : XK} :
    (cxOf CX P w K mg base N qual scope f cd A outer s H E).K = K := rfl
theorem b_ff {A B : Prop} : (if false = true then A else B) = B := if_neg Bool.false_ne_true
theorem b_tt {A B : Prop} : (if true = true then A else B) = A := if_pos rfl
theorem b_fmti {i : Int} : rFmt (.int i) H Q = (i.natAbs.log2 < 1920 ∧ Q (.str (toString i)) H) := rfl
theorem b_fmts {y : Str} : rFmt (.str y) H Q = (y.length ≤ sizeLine ∧ Q (.str y) H) := rfl
theorem b_js {acc y : Str} {k : Str → Prop} : rJs acc (.str y) k = ((acc ++ y).length ≤ sizeLine ∧ k (acc ++ y)) := rfl
theorem b_jsn {acc : Str} {R : Str → Hp → Prop} : tJsU [] acc σ H R = R acc H := rfl
theorem b_jsc {t : TE} {ts : List TE} {acc : Str} {R : Str → Hp → Prop} : tJsU (t :: ts) acc σ H R = t σ H (fun x H1 => rJs acc x fun acc' => tJsU ts acc' σ H1 R) := rfl
theorem b_booli {i : Int} : rBoolU [.int i] H Q = Q (.bl (i != 0)) H := rfl
theorem b_boolb {b : Bool} : rBoolU [.bl b] H Q = Q (.bl b) H := rfl
theorem b_gcons {t : TG} {u : TGs} {x : V} {xs : List V} {R : St → Hp → Prop} : gCons t u (x :: xs) σ H R = t x σ H (fun σ' H' => u xs σ' H' R) := by
  apply propext; constructor
  · rintro ⟨v, r, h, q⟩; cases h; exact q
  · intro q; exact ⟨x, xs, rfl, q⟩
theorem b_gnil {R : St → Hp → Prop} : gNil [] σ H R = R σ H := by
  apply propext; constructor
  · rintro ⟨_, q⟩; exact q
  · intro q; exact ⟨rfl, q⟩
theorem s_unp {n : Nat} {p : Addr} {xs : List V} {k : List V → Prop} (h : H p = some (.tup xs)) (hl : xs.length = n) (q : k xs) : rUnp n (.ref p) H k := by
  unfold rUnp; simp only [h]; exact ⟨hl, q⟩
theorem s_unpL {n : Nat} {p : Addr} {xs : List V} {k : List V → Prop} (h : H p = some (.lst xs)) (hl : xs.length = n) (q : k xs) : rUnp n (.ref p) H k := by
  unfold rUnp; simp only [h]; exact ⟨hl, q⟩
theorem b_2i {g : Int → Int → Hp → VK → Prop} {i j : Int} : r2i g (.int i) (.int j) H Q = g i j H Q := rfl
theorem b_int {i : Int} : rIntU [.int i] H Q = Q (.int i) H := rfl
theorem b_intb {b : Bool} : rIntU [.bl b] H Q = Q (.int (if b then 1 else 0)) H := rfl
theorem b_abs {i : Int} : rAbsU [.int i] H Q = Q (.int (if i < 0 then -i else i)) H := rfl
theorem b_un {g : Int → V} {i : Int} : rU g (.int i) H Q = Q (g i) H := by
  apply propext; constructor
  · rintro ⟨a, h, q⟩; cases h; exact q
  · intro q; exact ⟨i, rfl, q⟩
theorem b_if {c A B : Prop} [Decidable c] : (if decide c = true then A else B) = (if c then A else B) := by
  by_cases h : c
  · rw [if_pos h, if_pos (decide_eq_true h)]
  · rw [if_neg h, if_neg (by simp [h])]
theorem s_ixL {p : Addr} {i : Int} {xs : List V} {v : V} (h : H p = some (.lst xs)) (h2 : atI xs i = some v) (q : Q v H) : rIxU (.ref p) (.int i) H Q := by
  simp only [rIxU, rdS, h, h2]; exact q
theorem s_ixT {p : Addr} {i : Int} {xs : List V} {v : V} (h : H p = some (.tup xs)) (h2 : atI xs i = some v) (q : Q v H) : rIxU (.ref p) (.int i) H Q := by
  simp only [rIxU, rdS, h, h2]; exact q
theorem s_lenL {p : Addr} {xs : List V} (h : H p = some (.lst xs)) (q : Q (.int xs.length) H) : rLenU [.ref p] H Q := by
  simp only [rLenU, rdS, h]; exact q
theorem s_lenT {p : Addr} {xs : List V} (h : H p = some (.tup xs)) (q : Q (.int xs.length) H) : rLenU [.ref p] H Q := by
  simp only [rLenU, rdS, h]; exact q
theorem s_set {p : Addr} {k : Int} {v : V} {xs : List V} {j : Nat} {R : Hp → Prop} (h : H p = some (.lst xs)) (h2 : ixN xs.length k = some j) (q : R (upd H p (.lst (xs.set j v)))) : rSetU (.ref p) (.int k) v H R := by
  simp only [rSetU, h, h2]; exact q
theorem s_eq {x y : V} {d e : PyData} (h : toD H 8 x = some d) (h2 : toD H 8 y = some e) (q : Q (.bl (PyData.eqv d e)) H) : rEqU x y H Q := by
  simp only [rEqU, h, h2]; exact q
theorem s_ne {x y : V} {d e : PyData} (h : toD H 8 x = some d) (h2 : toD H 8 y = some e) (q : Q (.bl (!PyData.eqv d e)) H) : rNeU x y H Q := by
  simp only [rNeU, h, h2]; exact q
theorem g_old {q b : Addr} {o o' : HO} (hq : H q = none) (h : H b = some o') : upd H q o b = some o' := by rw [upd_old hq (by rw [h]; simp), h]
theorem g_oth {q b : Addr} {o o' : HO} (hn : b ≠ q) (h : H b = some o') : upd H q o b = some o' := by rw [upd_ne hn, h]
theorem d_int {n : Nat} {i : Int} : toD H n (.int i) = some (.int i) := by cases n <;> simp only [toD]
theorem d_non {n : Nat} : toD H n .non = some .none := by cases n <;> simp only [toD]
theorem d_bl {n : Nat} {b : Bool} : toD H n (.bl b) = some (.bool b) := by cases n <;> simp only [toD]
theorem d_ints {n : Nat} : ∀ (l : List Int), toDs H n (l.map .int) = some (l.map .int)
  | [] => by simp only [List.map_nil, toDs]
  | a :: l => by simp only [List.map_cons, toDs, d_int, d_ints l]
theorem d_lst {n : Nat} {p : Addr} {xs : List V} {ds : List PyData} (h : H p = some (.lst xs)) (h2 : toDs H n xs = some ds) : toD H (n + 1) (.ref p) = some (.list ds) := by
  simp only [toD, h, h2, Option.map_some]
theorem d_tup {n : Nat} {p : Addr} {xs : List V} {ds : List PyData} (h : H p = some (.tup xs)) (h2 : toDs H n xs = some ds) : toD H (n + 1) (.ref p) = some (.tuple ds) := by
  simp only [toD, h, h2, Option.map_some]
theorem d_nil {n : Nat} : toDs H n [] = some [] := by simp only [toDs]
theorem d_cons {n : Nat} {v : V} {vs : List V} {d : PyData} {ds : List PyData} (h : toD H n v = some d) (h2 : toDs H n vs = some ds) : toDs H n (v :: vs) = some (d :: ds) := by simp only [toDs, h, h2]
theorem s_setF {K : PySem.W.Frag} {a C dx : Addr} {fs : List (Str × V)} {f : Str} {y : V} {R : Hp → Prop} (h : H a = some (.ins C dx fs)) (c : Cls K C) (n : NoAttr K C f) (l : fs.length < 1000) (q : R (upd H a (.ins C dx (putF f y fs)))) : rSetF K f (.ref a) y H R := by
  unfold rSetF; simp only [h]; exact ⟨c, n, l, q⟩
theorem upd_upd {a : Addr} {o o' : HO} : upd (upd H a o) a o' = upd H a o' := by
  funext b
  unfold upd
  split <;> rfl
theorem s_new {o : HO} {R : V → Hp → Prop} (q : ∀ p H', H p = none → H' p = some o → Ext H H' → R (.ref p) H') : ∀ p, H p = none → R (.ref p) (upd H p o) := fun p hp => q p _ hp upd_at (Ext.upd hp)
theorem s_setN {p : Addr} {k : Int} {v : V} {xs : List V} {j : Nat} {R : Hp → Prop} (h : H p = some (.lst xs)) (h2 : ixN xs.length k = some j) (q : ∀ H', H' p = some (.lst (xs.set j v)) → ExtBut p H H' → R H') : rSetU (.ref p) (.int k) v H R :=
  s_set h h2 (q _ upd_at (ExtBut.upd (Ext.but (Ext.refl H))))
theorem eqv_nil : ∀ (l : List Int), PyData.eqv (.list (l.map .int)) (.list []) = l.isEmpty
  | [] => by rw [List.map_nil, PyData.eqv, PyData.eqvAll]; rfl
  | a :: l => by rw [List.map_cons, PyData.eqv, PyData.eqvAll]; rfl
theorem at_ints {l : List Int} {i : Int} (h0 : 0 ≤ i) (h1 : i < l.length) : ∃ c, atI (l.map V.int) i = some (.int c) := by
  have h2 : i.toNat < l.length := by omega
  exact ⟨l[i.toNat], atN h0 (by rw [List.getElem?_map, List.getElem?_eq_getElem h2]; rfl)⟩
theorem mix_bound {m a c1 c2 c3 : Int} (h0 : 0 ≤ m) (h1 : m < 2147483648) (a0 : 0 ≤ a) (a1 : a ≤ 1000001) (b0 : 0 ≤ c1) (b1 : c1 ≤ 1000000) (d0 : 0 ≤ c2) (d1 : c2 ≤ 1000000) (f0 : 0 ≤ c3) (f1 : c3 ≤ 1000000) :
    -18446744073709551616 < m * (2 * a + c1) + c2 * a * a + c3 ∧ m * (2 * a + c1) + c2 * a * a + c3 < 18446744073709551616 := by
  have x1 : m * (2 * a + c1) ≤ 2147483648 * 3000002 := Int.mul_le_mul (by omega) (by omega) (by omega) (by omega)
  have x0 : 0 ≤ m * (2 * a + c1) := Int.mul_nonneg h0 (by omega)
  have y0 : 0 ≤ c2 * a := Int.mul_nonneg d0 a0
  have y1 : c2 * a ≤ 1000000 * 1000001 := Int.mul_le_mul d1 a1 a0 (by omega)
  have z0 : 0 ≤ c2 * a * a := Int.mul_nonneg y0 a0
  have z1 : c2 * a * a ≤ (1000000 * 1000001) * 1000001 := Int.mul_le_mul y1 a1 a0 (by omega)
  omega
end
/-! ### the pen -/
structure Pen (H : Hp) (p l : Addr) (ns : List Int) (at_ rest n : Int) : Prop where
  hp : H p = some (.lst [.ref l, .int at_, .int rest])
  hl : H l = some (.lst (List.map V.int ns))
  len : ns.length ≤ 63
  at0 : 0 ≤ at_
  atn : at_ ≤ n
  rest0 : 0 ≤ rest
def PenX (H : Hp) (p : Addr) (n : Int) : Prop := ∃ l ns at_ rest, Pen H p l ns at_ rest n
theorem pen_ne {at_ rest : Int} {l : Addr} {ns : List Int} {H : Hp} {p : Addr} (h1 : H p = some (.lst [.ref l, .int at_, .int rest])) (h2 : H l = some (.lst (List.map V.int ns))) : l ≠ p := by
  intro z
  rw [z, h1] at h2
  cases ns with
  | nil => cases h2
  | cons a r => rw [List.map_cons] at h2; cases h2
theorem PenX.ext {H H' : Hp} {p : Addr} {n m : Int} (h : PenX H p n) (e : Ext H H') (hm : n ≤ m) : PenX H' p m := by
  obtain ⟨l, ns, a, r, P⟩ := h
  exact ⟨l, ns, a, r, e.at P.hp, e.at P.hl, P.len, P.at0, Int.le_trans P.atn hm, P.rest0⟩
def spDraw : Sp := fun vs H Q _ => ∃ p many n, vs = [.ref p, .int many] ∧ PenX H p n ∧ n ≤ 1000000 ∧ 1 ≤ many ∧ many < 1073741824 ∧
  ∀ r H', 0 ≤ r → r < many → ExtBut p H H' → PenX H' p (n + 1) → Q (.int r) H'
end Wp

set_option maxHeartbeats 4000000
namespace Wp
open PySem PySem.W L2 PyProof.Rows
section
variable {prog : Program} {w : World} {A : Around} {E : Value → Shared → Prop} {s : Shared} {K : Frag} {x C f : Addr} {ox : Obj} {od : Option Obj} {b : Value}
theorem num_own {M : Model} {h : Heap} {nm : String} {r : Option Value} (X : K.In h) (hs : findIn K (.ref C) (PySem.dunder nm) = some (some (.ref f))) (hr : findIn K (.ref C) (PySem.dunderR nm) = some r) (hr2 : ∀ id, r ≠ some (.builtin id)) :
    Looks M h (numberSlotInPython (.ref C) nm) true := by
  intro A Q E s k q
  unfold numberSlotInPython
  refine wpAny_bind (looks_findIn X hs A _ E s k ?_)
  refine wpAny_bind ?_
  show wpAny M A (pure true) _ E s
  refine wpAny_pure ?_
  refine wpAny_bind (looks_findIn X hr A _ E s k ?_)
  refine wpAny_bind ?_
  cases r with
  | none =>
    show wpAny M A (pure false) _ E s
    exact wpAny_pure (wpAny_pure q)
  | some v =>
    cases v with
    | builtin id => exact absurd rfl (hr2 id)
    | _ =>
      show wpAny M A (pure true) _ E s
      exact wpAny_pure (wpAny_pure q)
/-- x + b, x an own instance whose class has the method, b of a built-in type -/
theorem own_left1 {U nm : String} {rb : Bool} {ro r : Option Value} {Q : Option Value → Shared → Prop} (X : K.In s.heap) (I : InstAt s.heap x ox C od) (hb : Looks (model prog w) s.heap (typeOf b) (.type U)) (hc : selfFirst K C = true)
    (hs : findIn K (.ref C) (PySem.dunder nm) = some (some (.ref f))) (hf : isFn K (.ref f) = true) (hr : findIn K (.ref C) (PySem.dunderR nm) = some r) (hr2 : ∀ id, r ≠ some (.builtin id))
    (hfU : fillsNumberSlot (.type U) nm = pure rb) (hsub : subIn K (.type U) (.ref C) = some false) (hrU : typeLookup (.type U) (PySem.dunderR nm) = pure ro)
    (h : wpAny (model prog w) A (call (.ref f) [.ref x, b]) (W.CmpBack fun v s' => Q (some v) s') E s) : wpAny (model prog w) A (binaryOp1 nm (.ref x) b) Q E s := by
  obtain ⟨cd, hcd, hm⟩ := any_some hc
  obtain ⟨rest, hm⟩ : ∃ rest, cd.mro = .ref C :: rest := by
    cases q : cd.mro with
    | nil => rw [q] at hm; cases hm
    | cons a r => rw [q] at hm; exact ⟨r, by rw [List.head?_cons] at hm; cases (beq_iff_eq.mp hm); rfl⟩
  unfold binaryOp1
  refine wpAny_bind (I.type.here (wpAny_bind (hb.here (wpAny_bind ((fills_K X hcd hm hs).here ?_)))))
  have e1 : (Value.ref C == Value.type U) = false := rfl
  simp only [e1, Bool.false_eq_true, if_false]
  refine wpAny_bind (wpAny_of_eq hfU ?_)
  have fin : ∀ (k : Option Value → Sem (Option Value)), (∀ v, k (some v) = pure (some v)) → wpAny (model prog w) A (tryMethod (.ref x) (PySem.dunder nm) b >>= k) Q E s := fun k hk => by
    refine wpAny_bind ?_
    unfold tryMethod
    refine wpAny_bind (special_fn X I hs (beq_iff_eq.mp hf) (wpAny_mono h (fun v s' hv => ?_) fun _ _ e => e))
    cases v <;> first | exact hv.elim | (refine wpAny_pure ?_; rw [hk]; exact wpAny_pure hv)
  cases rb with
  | false =>
    simp only [Bool.and_false, Bool.false_eq_true, if_false, Bool.false_and, pure_bind]
    exact fin _ fun v => rfl
  | true =>
    simp only [Bool.and_self, if_true, Bool.not_false]
    refine wpAny_bind ((looks_subIn X hsub).here ?_)
    simp only [Bool.false_eq_true, if_false, pure_bind, Bool.not_false, Bool.and_self, if_true]
    refine wpAny_bind ((num_own X hs hr hr2).here ?_)
    have e2 : numberSlotInPython (.type U) nm = pure false := rfl
    simp only [if_true, e2, pure_bind, Bool.not_false]
    refine wpAny_bind (wpAny_of_eq hrU ?_)
    exact fin _ fun v => rfl
theorem own_left {U : String} {op : Operator} {rb : Bool} {ro r : Option Value} {Q : Value → Shared → Prop} (X : K.In s.heap) (I : InstAt s.heap x ox C od) (hb : Looks (model prog w) s.heap (typeOf b) (.type U)) (hc : selfFirst K C = true)
    (hs : findIn K (.ref C) (PySem.dunder op.info.2) = some (some (.ref f))) (hf : isFn K (.ref f) = true) (hr : findIn K (.ref C) (PySem.dunderR op.info.2) = some r) (hr2 : ∀ id, r ≠ some (.builtin id))
    (hfU : fillsNumberSlot (.type U) op.info.2 = pure rb) (hsub : subIn K (.type U) (.ref C) = some false) (hrU : typeLookup (.type U) (PySem.dunderR op.info.2) = pure ro)
    (h : wpAny (model prog w) A (call (.ref f) [.ref x, b]) (W.CmpBack Q) E s) : wpAny (model prog w) A (binaryOp op (.ref x) b) Q E s := by
  unfold binaryOp
  refine wpAny_holding (wpAny_bind ?_)
  refine own_left1 X I hb hc hs hf hr hr2 hfU hsub hrU (wpAny_mono h (fun v s' hv => ?_) fun _ _ e => e)
  cases v <;> first | exact hv.elim | exact wpAny_pure hv
theorem inst_keep {h h' : Heap} (I : W.InstAt h x ox C od) (k : ∀ b o, h.get? b = some o → h'.get? b = some o) : W.InstAt h' x ox C od := by
  refine ⟨k _ _ I.at_, I.cls, I.no, ?_⟩
  have q := I.dict
  split at q
  · exact k _ _ q
  · trivial
  · exact q.elim
/-- a + x, x an own instance whose class has the reflected method, a of a built-in type whose own method (if any) declines -/
theorem own_right1 {U nm : String} {lb : Bool} {a : Value} {Q : Option Value → Shared → Prop} (hK : ∀ s' : Shared, (∀ b o, s.heap.get? b = some o → s'.heap.get? b = some o) → K.In s'.heap) (I : InstAt s.heap x ox C od) (ha : Looks (model prog w) s.heap (typeOf a) (.type U)) (hc : selfFirst K C = true)
    (hs : findIn K (.ref C) (PySem.dunderR nm) = some (some (.ref f))) (hf : isFn K (.ref f) = true) {r : Option Value} (hr : findIn K (.ref C) (PySem.dunder nm) = some r) (hr2 : ∃ g, r = some (.ref g))
    (hfU : fillsNumberSlot (.type U) nm = pure lb) (hsub : subIn K (.ref C) (.type U) = some false)
    (hd : lb = true → wpAny (model prog w) A (tryMethod a (PySem.dunder nm) (.ref x)) (fun r s' => r = none ∧ (∀ b o, s.heap.get? b = some o → s'.heap.get? b = some o) ∧ wpAny (model prog w) A (call (.ref f) [.ref x, a]) (W.CmpBack fun v s' => Q (some v) s') E s') E s)
    (h : lb = false → wpAny (model prog w) A (call (.ref f) [.ref x, a]) (W.CmpBack fun v s' => Q (some v) s') E s) : wpAny (model prog w) A (binaryOp1 nm a (.ref x)) Q E s := by
  have X := hK s fun _ _ e => e
  obtain ⟨g, rfl⟩ := hr2
  obtain ⟨cd, hcd, hm⟩ := any_some hc
  obtain ⟨rest, hm⟩ : ∃ rest, cd.mro = .ref C :: rest := by
    cases q : cd.mro with
    | nil => rw [q] at hm; cases hm
    | cons a r => rw [q] at hm; exact ⟨r, by rw [List.head?_cons] at hm; cases (beq_iff_eq.mp hm); rfl⟩
  unfold binaryOp1
  refine wpAny_bind (ha.here (wpAny_bind (I.type.here (wpAny_bind (wpAny_of_eq hfU ?_)))))
  have e1 : (Value.type U == Value.ref C) = false := rfl
  simp only [e1, Bool.false_eq_true, if_false]
  refine wpAny_bind ((fills_K X hcd hm hr).here ?_)
  have e2 : numberSlotInPython (.type U) nm = pure false := rfl
  have fin : ∀ (s1 : Shared) (k : Option Value → Sem (Option Value)), (∀ v, k (some v) = (do rule "binop.reflected"; pure (some v))) → (∀ b o, s.heap.get? b = some o → s1.heap.get? b = some o) →
      wpAny (model prog w) A (call (.ref f) [.ref x, a]) (W.CmpBack fun v s' => Q (some v) s') E s1 → wpAny (model prog w) A (tryMethod (.ref x) (PySem.dunderR nm) a >>= k) Q E s1 := fun s1 k hk kp h => by
    refine wpAny_bind ?_
    unfold tryMethod
    refine wpAny_bind (special_fn (hK s1 kp) (inst_keep I kp) hs (beq_iff_eq.mp hf) (wpAny_mono h (fun v s' hv => ?_) fun _ _ e => e))
    cases v <;> first | exact hv.elim | (refine wpAny_pure ?_; rw [hk]; exact wpAny_bind (wpAny_rule (wpAny_pure hv)))
  cases lb with
  | false =>
    simp only [Bool.and_false, Bool.false_eq_true, if_false, Bool.false_and, pure_bind, Bool.not_false, Bool.and_true, if_true]
    exact fin s _ (fun v => rfl) (fun _ _ e => e) (h rfl)
  | true =>
    simp only [Bool.and_self, if_true, Bool.not_false]
    refine wpAny_bind ((looks_subIn X hsub).here ?_)
    simp only [Bool.false_eq_true, if_false, pure_bind, Bool.not_false, Bool.and_self, if_true, e2]
    refine wpAny_bind (wpAny_mono (hd rfl) (fun r s1 z => ?_) fun _ _ e => e)
    obtain ⟨rfl, kp, z⟩ := z
    exact fin s1 _ (fun v => rfl) kp z
end
/-! ### by values -/
structure InsK (K : Frag) (C : Addr) : Prop where
  cl : Cls K C
  sf : selfFirst K C = true
  ha : findIn K (.ref C) "__class__" = some (some (.builtin "object.__class__"))
  hn : specialIn K (.builtin "object.__class__") "__get__" = some (some (.builtin "getset_descriptor.__get__"))
  tk : takesIn K (.builtin "object.__class__") = some true
  hm : mroIn K C (.type "object") = some true
/-- the type of a value -/
def rTy (K : Frag) (x : V) (H : Hp) (k : Value → Prop) : Prop := match x with
  | .non => k (.type "NoneType")
  | .bl _ => k (.type "bool")
  | .int _ => k (.type "int")
  | .str _ => k (.type "str")
  | .ref a => (match H a with
    | some (.lst _) => k (.type "list")
    | some (.frz _ (.lst _)) => k (.type "list")
    | some (.tup _) => k (.type "tuple")
    | some (.dK _) => k (.type "dict")
    | some (.dT _) => k (.type "dict")
    | some (.ins C _ _) => InsK K C ∧ k (.ref C)
    | _ => False)
  | _ => False
theorem rTy_get {K : Frag} {x : V} {H : Hp} {k : Value → Prop} (h : rTy K x H k) : ∃ t, TyX K H x t ∧ k t := by
  unfold rTy at h
  split at h
  · exact ⟨_, .base .non, h⟩
  · exact ⟨_, .base (.bl _), h⟩
  · exact ⟨_, .base (.int _), h⟩
  · exact ⟨_, .base (.str _), h⟩
  · split at h
    · exact ⟨_, .base (.lst (by assumption)), h⟩
    · exact ⟨_, .base (.frz (by assumption)), h⟩
    · exact ⟨_, .base (.tup (by assumption)), h⟩
    · exact ⟨_, .base (.dK (by assumption)), h⟩
    · exact ⟨_, .base (.dT (by assumption)), h⟩
    · obtain ⟨c, h⟩ := h
      exact ⟨_, .base (.ins (by assumption) c.cl c.ha c.hn c.tk c.hm), h⟩
    · exact h.elim
  · exact h.elim
theorem ty_looks {X : Cx} {pins : List (Addr × Obj)} {σ : L2.St} {H : Hp} {s : Shared} {x : V} {u t : Value} (I : L2.Inv X pins σ H s) (rx : RelV x u) (ty : TyX X.K H x t) (M : Model) : Looks M s.heap (typeOf u) t := by
  obtain ⟨P, k, p, _⟩ := kit_of I rx ty
  exact k.ty M _ I.kIn p
def isIns (C : Addr) (H : Hp) (x : V) : Prop := match x with
  | .ref a => (match H a with
    | some (.ins C' _ _) => C' = C
    | _ => False)
  | _ => False
theorem isIns_get {C : Addr} {H : Hp} {x : V} (h : isIns C H x) : ∃ a dx fs, x = .ref a ∧ H a = some (.ins C dx fs) := by
  unfold isIns at h
  split at h
  · split at h
    · subst h; exact ⟨_, _, _, rfl, by assumption⟩
    · exact h.elim
  · exact h.elim
theorem s_ins {C a dx : Addr} {H : Hp} {fs : List (Str × V)} (h : H a = some (.ins C dx fs)) : isIns C H (.ref a) := by
  unfold isIns; simp only [h]
theorem inst_of {X : Cx} {pins : List (Addr × Obj)} {σ : L2.St} {H : Hp} {s : Shared} {a C dx : Addr} {fs : List (Str × V)} (I : L2.Inv X pins σ H s) (h : H a = some (.ins C dx fs)) : ∃ od, W.InstAt s.heap a (instObj C dx) C (some od) := by
  obtain ⟨mA, O, _⟩ := ins_get I.hok h
  obtain ⟨od, J, _⟩ := O.look
  exact ⟨od, J⟩
/-- the operator's method in the class, and its reflected one -/
structure BinM (K : Frag) (C : Addr) (nm : String) (f g : Addr) : Prop where
  hs : findIn K (.ref C) (PySem.dunder nm) = some (some (.ref f))
  hf : isFn K (.ref f) = true
  hr : findIn K (.ref C) (PySem.dunderR nm) = some (some (.ref g))
  hg : isFn K (.ref g) = true
def NumT (K : Frag) (C : Addr) (nm : String) (t : Value) : Prop := t = .ref C ∨ ∃ U rb ro, t = .type U ∧ fillsNumberSlot (.type U) nm = pure rb ∧ subIn K (.type U) (.ref C) = some false ∧ typeLookup (.type U) (PySem.dunderR nm) = pure ro
def rOpL (K : Frag) (C : Addr) (nm : String) (sp : Sp) (E : XK) : R2 := fun x y H Q => isIns C H x ∧ rTy K y H (NumT K C nm) ∧ sp [x, y] H Q E
theorem back_of {X : Cx} {pins : List (Addr × Obj)} {σ : L2.St} {Q : VK} {v : Value} {s' : Shared} (h : EP X pins σ Q v s') : W.CmpBack (EP X pins σ Q) v s' := by
  obtain ⟨y, H', I', r, q⟩ := id h
  cases v <;> first | exact h | (cases y <;> first | (obtain ⟨_, r2⟩ := r; cases r2; done) | (cases r; done))
theorem binop_own {prog : Program} {w : World} {A : Around} {E : Value → Shared → Prop} {s : Shared} {K : Frag} {x C f g : Addr} {ox : Obj} {od : Option Obj} {b t : Value} {nm : String} {Q : Option Value → Shared → Prop} (X : K.In s.heap) (I : W.InstAt s.heap x ox C od)
    (hb : Looks (model prog w) s.heap (typeOf b) t) (hc : selfFirst K C = true) (B : BinM K C nm f g) (ht : NumT K C nm t)
    (h : wpAny (model prog w) A (call (.ref f) [.ref x, b]) (W.CmpBack fun v s' => Q (some v) s') E s) : wpAny (model prog w) A (binaryOp1 nm (.ref x) b) Q E s := by
  rcases ht with rfl | ⟨U, rb, ro, rfl, h1, h2, h3⟩
  · obtain ⟨cd, hcd, hm⟩ := any_some hc
    obtain ⟨rest, hm⟩ : ∃ rest, cd.mro = .ref C :: rest := by
      cases q : cd.mro with
      | nil => rw [q] at hm; cases hm
      | cons a r => rw [q] at hm; exact ⟨r, by rw [List.head?_cons] at hm; cases (beq_iff_eq.mp hm); rfl⟩
    unfold binaryOp1
    refine wpAny_bind (I.type.here (wpAny_bind (hb.here (wpAny_bind ((fills_K X hcd hm B.hs).here ?_)))))
    simp only [beq_self_eq_true, if_true]
    refine wpAny_bind (wpAny_pure ?_)
    simp only [Bool.and_false, Bool.false_eq_true, if_false, Bool.false_and]
    refine wpAny_bind (wpAny_pure ?_)
    simp only [Bool.false_eq_true, if_false]
    refine wpAny_bind (m := tryMethod (.ref x) _ b) ?_
    unfold tryMethod
    refine wpAny_bind (special_fn X I B.hs (beq_iff_eq.mp B.hf) (wpAny_mono h (fun v s' hv => ?_) fun _ _ e => e))
    cases v <;> first | exact hv.elim | exact wpAny_pure (wpAny_pure hv)
  · exact own_left1 X I hb hc B.hs B.hf B.hr (fun id z => by cases z) h1 h2 h3 h
section
variable {X : Cx} {C f g : Addr} {k : Nat} {sp : Sp} {E : XK} {op : Operator}
theorem ow_L1 (hc : selfFirst X.K C = true) (B : BinM X.K C op.info.2 f g) (F : FnR X.prog X.w X.K X.mg X.base (L2.CX X.prog X.w) k f sp) (hr : Room k X.A) (hx : Passes (L2.CX X.prog X.w) X E)
    {pins : List (Addr × Obj)} {s : Shared} {σ : L2.St} {H : Hp} {x y : V} {v u : Value} {Q : VK} (I : L2.Inv X pins σ H s) (rx : RelV x v) (ry : RelV y u) (hq : rOpL X.K C op.info.2 sp E x y H Q) :
    wpAny (model X.prog X.w) X.A (binaryOp1 op.info.2 v u) (fun r s' => ∃ z, r = some z ∧ EP X pins σ Q z s') X.xe s := by
  obtain ⟨h1, h2, h3⟩ := hq
  obtain ⟨a, dx, fs, rfl, ha⟩ := isIns_get h1
  obtain ⟨t, ty, ht⟩ := rTy_get h2
  obtain rfl : v = Value.ref a := rx
  obtain ⟨od, J⟩ := inst_of I ha
  refine binop_own I.kIn J (ty_looks I ry ty _) hc B ht ?_
  refine wpAny_call (codeAny_mono (run_fnR F hr hx I (vs := [V.ref a, y]) (.cons rfl (.cons ry .nil)) h3) fun r s' z => ?_)
  cases r with
  | error e => exact z
  | ok fl =>
    cases fl with
    | ret w' =>
      have := back_of z
      cases w' <;> first | exact this.elim | exact ⟨_, rfl, this⟩
    | next => exact z.elim
    | brk => exact z.elim
    | cont => exact z.elim
theorem op_ownL {K : Frag} (hc : selfFirst K C = true) (B : BinM K C op.info.2 f g) (F : FnR X.prog X.w K X.mg X.base (L2.CX X.prog X.w) k f sp) (hr : Room k X.A) (hx : Passes (L2.CX X.prog X.w) X E) (hK : X.K = K := by rfl) : OpR X (binaryOp op) (rOpL K C op.info.2 sp E) := by
  subst hK
  intro pins s σ H x y v u Q I rx ry hq
  unfold binaryOp
  refine wpAny_holding (wpAny_bind (wpAny_mono (ow_L1 hc B F hr hx I rx ry hq) (fun r s' z => ?_) fun _ _ e => e))
  obtain ⟨z, rfl, q⟩ := z
  exact wpAny_pure q
/-- an int on the left -/
def rOpR (C : Addr) (sp : Sp) (E : XK) : R2 := fun x y H Q => isIns C H y ∧ (match x with
  | .int _ => sp [y, x] H Q E
  | _ => False)
theorem int_add_ref {prog : Program} {w : World} {A : Around} {E : Value → Shared → Prop} {s : Shared} {x : Addr} {ox : Obj} {a : Int} {t : Tok} {Q : Value → Shared → Prop} (hx : s.heap.get? x = some ox) (hd : ox.data = .plain)
    (h : Q .notImplemented s) : wpAny (model prog w) A (call (.builtin "int.__add__") [.int a t, .ref x]) Q E s := by
  obtain ⟨oc, od, dt, sl⟩ := ox
  simp only at hd
  subst hd
  refine GQ.call_here F.slot_int_add (typeIs_int s a t) F.entry_int_add (F.args_int_add_2 _ _) ?_
  obtain ⟨hp, g, d, tk, os⟩ := s
  wp_walk using AutoSeq1.wpAny_loadPart' hx
  exact h
theorem int_sub_ref {prog : Program} {w : World} {A : Around} {E : Value → Shared → Prop} {s : Shared} {x : Addr} {ox : Obj} {a : Int} {t : Tok} {Q : Value → Shared → Prop} (hx : s.heap.get? x = some ox) (hd : ox.data = .plain)
    (h : Q .notImplemented s) : wpAny (model prog w) A (call (.builtin "int.__sub__") [.int a t, .ref x]) Q E s := by
  obtain ⟨oc, od, dt, sl⟩ := ox
  simp only at hd
  subst hd
  refine GQ.call_here F.slot_int_sub (typeIs_int s a t) F.entry_int_sub (F.args_int_sub_2 _ _) ?_
  obtain ⟨hp, g, d, tk, os⟩ := s
  wp_walk using AutoSeq1.wpAny_loadPart' hx
  exact h
theorem int_mul_ref {prog : Program} {w : World} {A : Around} {E : Value → Shared → Prop} {s : Shared} {x : Addr} {ox : Obj} {a : Int} {t : Tok} {Q : Value → Shared → Prop} (hx : s.heap.get? x = some ox) (hd : ox.data = .plain)
    (h : Q .notImplemented s) : wpAny (model prog w) A (call (.builtin "int.__mul__") [.int a t, .ref x]) Q E s := by
  obtain ⟨oc, od, dt, sl⟩ := ox
  simp only at hd
  subst hd
  refine GQ.call_here F.slot_int_mul (typeIs_int s a t) F.entry_int_mul (F.args_int_mul_2 _ _) ?_
  obtain ⟨hp, g, d, tk, os⟩ := s
  wp_walk using AutoSeq1.wpAny_loadPart' hx
  exact h
theorem int_floordiv_ref {prog : Program} {w : World} {A : Around} {E : Value → Shared → Prop} {s : Shared} {x : Addr} {ox : Obj} {a : Int} {t : Tok} {Q : Value → Shared → Prop} (hx : s.heap.get? x = some ox) (hd : ox.data = .plain)
    (h : Q .notImplemented s) : wpAny (model prog w) A (call (.builtin "int.__floordiv__") [.int a t, .ref x]) Q E s := by
  obtain ⟨oc, od, dt, sl⟩ := ox
  simp only at hd
  subst hd
  refine GQ.call_here F.slot_int_floordiv (typeIs_int s a t) F.entry_int_floordiv (F.args_int_floordiv_2 _ _) ?_
  obtain ⟨hp, g, d, tk, os⟩ := s
  wp_walk using AutoSeq1.wpAny_loadPart' hx
  exact h
theorem int_mod_ref {prog : Program} {w : World} {A : Around} {E : Value → Shared → Prop} {s : Shared} {x : Addr} {ox : Obj} {a : Int} {t : Tok} {Q : Value → Shared → Prop} (hx : s.heap.get? x = some ox) (hd : ox.data = .plain)
    (h : Q .notImplemented s) : wpAny (model prog w) A (call (.builtin "int.__mod__") [.int a t, .ref x]) Q E s := by
  obtain ⟨oc, od, dt, sl⟩ := ox
  simp only at hd
  subst hd
  refine GQ.call_here F.slot_int_mod (typeIs_int s a t) F.entry_int_mod (F.args_int_mod_2 _ _) ?_
  obtain ⟨hp, g, d, tk, os⟩ := s
  wp_walk using AutoSeq1.wpAny_loadPart' hx
  exact h
theorem ow_R1 {id : String} (hc : selfFirst X.K C = true) (B : BinM X.K C op.info.2 f g) (F : FnR X.prog X.w X.K X.mg X.base (L2.CX X.prog X.w) k g sp) (hr : Room k X.A) (hx : Passes (L2.CX X.prog X.w) X E) (hfU : fillsNumberSlot (.type "int") op.info.2 = pure true) (hsub : subIn X.K (.ref C) (.type "int") = some false)
    (slot : Slot "int" (PySem.dunder op.info.2) id)
    (dec : ∀ {s : Shared} {x : Addr} {ox : Obj} {a : Int} {t : Tok} {Q : Value → Shared → Prop}, s.heap.get? x = some ox → ox.data = .plain → Q .notImplemented s → wpAny (model X.prog X.w) X.A (call (.builtin id) [.int a t, .ref x]) Q X.xe s)
    {pins : List (Addr × Obj)} {s : Shared} {σ : L2.St} {H : Hp} {x y : V} {v u : Value} {Q : VK} (I : L2.Inv X pins σ H s) (rx : RelV x v) (ry : RelV y u) (hq : rOpR C sp E x y H Q) :
    wpAny (model X.prog X.w) X.A (binaryOp1 op.info.2 v u) (fun r s' => ∃ z, r = some z ∧ EP X pins σ Q z s') X.xe s := by
  obtain ⟨h1, h3⟩ := hq
  obtain ⟨a, dx, fs, rfl, ha⟩ := isIns_get h1
  obtain rfl : u = Value.ref a := ry
  obtain ⟨od, J⟩ := inst_of I ha
  split at h3
  · rename_i i
    obtain ⟨t, rfl⟩ := rx
    have cl : wpAny (model X.prog X.w) X.A (call (.ref g) [.ref a, .int i t]) (W.CmpBack fun v s' => ∃ z, (some v : Option Value) = some z ∧ EP X pins σ Q z s') X.xe s := by
      refine wpAny_call (codeAny_mono (run_fnR F hr hx I (vs := [V.ref a, V.int i]) (.cons rfl (.cons ⟨t, rfl⟩ .nil)) h3) fun r s' z => ?_)
      cases r with
      | error e => exact z
      | ok fl =>
        cases fl with
        | ret w' =>
          have := back_of z
          cases w' <;> first | exact this.elim | exact ⟨_, rfl, this⟩
        | next => exact z.elim
        | brk => exact z.elim
        | cont => exact z.elim
    refine own_right1 (lb := true) (fun s' kp => I.kIn.keeps kp) J (Looks.of_pure (typeIs_int s i t)) hc B.hr B.hg B.hs ⟨_, rfl⟩ hfU hsub (fun _ => ?_) (fun z => by cases z)
    refine wpAny_tryMethod_declines (typeIs_int s i t) slot (dec J.at_ rfl ?_)
    exact ⟨rfl, rfl, fun _ _ e => e, cl⟩
  · exact h3.elim
theorem op_ownR {id : String} (hc : selfFirst X.K C = true) (B : BinM X.K C op.info.2 f g) (F : FnR X.prog X.w X.K X.mg X.base (L2.CX X.prog X.w) k g sp) (hr : Room k X.A) (hx : Passes (L2.CX X.prog X.w) X E) (hfU : fillsNumberSlot (.type "int") op.info.2 = pure true) (hsub : subIn X.K (.ref C) (.type "int") = some false)
    (slot : Slot "int" (PySem.dunder op.info.2) id)
    (dec : ∀ {s : Shared} {x : Addr} {ox : Obj} {a : Int} {t : Tok} {Q : Value → Shared → Prop}, s.heap.get? x = some ox → ox.data = .plain → Q .notImplemented s → wpAny (model X.prog X.w) X.A (call (.builtin id) [.int a t, .ref x]) Q X.xe s) :
    OpR X (binaryOp op) (rOpR C sp E) := by
  intro pins s σ H x y v u Q I rx ry hq
  unfold binaryOp
  refine wpAny_holding (wpAny_bind (wpAny_mono (ow_R1 hc B F hr hx hfU hsub slot dec I rx ry hq) (fun r s' z => ?_) fun _ _ e => e))
  obtain ⟨z, rfl, q⟩ := z
  exact wpAny_pure q
end
/-! ### isinstance -/
def cv : V → Option Value
  | .ty n => some (.type n)
  | .ref C => some (.ref C)
  | _ => none
def rIsiU (K : Frag) : List V → Hp → VK → Prop := fun vs H Q => match vs with
  | [x, c] => rTy K x H fun t => ∃ u b, cv c = some u ∧ kitOne K t u = some b ∧ Q (.bl b) H
  | _ => False
theorem cIsi {X : Cx} {K : Frag} (hK : X.K = K := by rfl) : CallR X (.builtin "isinstance") (rIsiU K) := by
  subst hK
  intro pins s σ H xs us Q I r h
  unfold rIsiU at h
  split at h
  · rename_i x c
    obtain ⟨t, ty, u, b, hc, hk, q⟩ := rTy_get h
    have hv : ClsV c u := by
      unfold cv at hc
      split at hc
      · cases hc; exact .ty _
      · cases hc; exact .own _
      · cases hc
    exact call_isi pins s σ H _ us Q I r ⟨x, c, t, u, b, rfl, hv, ty, hk, q⟩
  · exact h.elim
theorem rTy_mono {K : Frag} {x : V} {H : Hp} {k k' : Value → Prop} (m : ∀ t, k t → k' t) (h : rTy K x H k) : rTy K x H k' := by
  cases x with
  | ref a =>
    unfold rTy at h ⊢
    simp only at h ⊢
    cases e : H a with
    | none => rw [e] at h; exact h
    | some o =>
      rw [e] at h
      cases o with
      | frz o u => cases u <;> first | exact m _ h | exact h
      | ins C d f => exact ⟨h.1, m _ h.2⟩
      | _ => first | exact m _ h | exact h
  | _ => first | exact m _ h | exact h
theorem s_isi {K : Frag} {H : Hp} {Q : VK} {x c : V} {u : Value} {b : Bool} (hc : cv c = some u) (h : rTy K x H fun t => kitOne K t u = some b) (q : Q (.bl b) H) : rIsiU K [x, c] H Q := by
  show rTy K x H fun t => ∃ u b, cv c = some u ∧ kitOne K t u = some b ∧ Q (.bl b) H
  exact rTy_mono (fun t ht => ⟨u, b, hc, ht, q⟩) h
/-- o.m(e, ..) -/
theorem pe_mt2 {X : Cx} {k : Nat} {C : Addr} {m : Str} {sp : Sp} {E : XK} {o e : Expr} {es : List Expr} {ta : TE} {t : TA} {apos pos : Pos} {pl : Sem Bool} (g : GM X.prog X.w X.K X.mg X.base k C m sp) (hr : Room k X.A) (hx : Passes (L2.CX X.prog X.w) X E) (he : PE X o ta) (ha : PA X (e :: es) t)
    (hst : starEach (e :: es) X.env = (false, eval e X.env) :: starEach es X.env := by rfl) (hpl : (backTo pos (starEach es X.env)).any (·.1) = false := by rfl)
    (ht : eval (.Call (.Attribute o m apos) (e :: es) [] pos) X.env = (do
      let ov ← eval o X.env
      standAt apos.atName
      let (f, first) ← holding [ov] (getMethod ov m pl)
      callWith pos f first (backTo pos (starEach (e :: es) X.env)) (backToKw pos (keywordEach [] X.env))) := by rfl) : PE X (.Call (.Attribute o m apos) (e :: es) [] pos) (tMtU C m sp E ta t) := by
  obtain ⟨f, c, hm, F⟩ := g
  refine ⟨fun pins s σ H Q I h => ?_⟩
  refine PySem.W.methodCall_KW (pl := pl) (thn (he.run pins s σ H _ I h) fun u s1 ⟨x, H1, I1, rx, hi, q⟩ => ?_) ht
  obtain ⟨a, dx, fs, rfl, ea, l⟩ := insOf_get hi
  obtain rfl : u = Value.ref a := rx
  refine getmeth_ok I1 ea c hm l ?_
  refine PySem.W.callWith_K (first := [.ref a]) (h₀ := X.base) I.ok.mod.kin hm.kp (thn (ha.run pos pins s1 σ H1 _ I1 q) fun us s2 ⟨vs, H2, I2, r, q2⟩ => ⟨I2.kIn, ?_⟩) hst hpl
  exact wpAny_call (run_fnR (us := .ref a :: us) (vs := .ref a :: vs) F hr hx I2 (.cons rfl r) q2)
end Wp

set_option maxHeartbeats 4000000
namespace Wp
open PySem PySem.W L2 PyProof.Rows
section
variable {X : Cx} {C f : Addr} {k : Nat} {sp : Sp} {E : XK}
theorem run_sub {A : Around} {pins : List (Addr × Obj)} {s : Shared} {σ : L2.St} {H : Hp} {vs : List V} {us : List Value} {Q : VK} (F : FnR X.prog X.w X.K X.mg X.base (L2.CX X.prog X.w) k f sp) (sb : Sub X k A) (hx : Passes (L2.CX X.prog X.w) X E)
    (I : L2.Inv X pins σ H s) (r : Vals vs us) (h : sp vs H Q E) : wpAny (model X.prog X.w) A (call (.ref f) us) (EP X pins σ Q) X.xe s := by
  have e0 : Env0 X.prog X.w X.K X.mg X.base A X.stack s H := by
    have e := I.env0
    exact ⟨by rw [sb.fr]; exact e.frames, e.mod, e.bs, e.bsz, e.funs, e.frf, e.hok, e.bare⟩
  refine wpAny_call (codeAny_mono (F A X.stack s H us vs Q E sb.room e0 r h) fun r s' z => ?_)
  cases r with
  | error e => exact hx pins σ H s e s' I z
  | ok fl =>
    cases fl with
    | ret w' => exact I.after z
    | next => exact z.elim
    | brk => exact z.elim
    | cont => exact z.elim
theorem sub_here (hr : Room k X.A) : Sub X k X.A := ⟨hr, rfl⟩
theorem sub_in1 (hr : Room (k + 1) X.A) : Sub X k X.A.in1 := ⟨hr.in1, rfl⟩
/-! ### comparisons by an own method -/
def rCmpO (K : Frag) (C : Addr) (sp : Sp) (E : XK) : R2 := fun x y H Q => isIns C H x ∧ rTy K y H (fun t => notFirst K C t = true) ∧ sp [x, y] H Q E
theorem rc_own {op : CmpOp} {A : Around} (sb : Sub X k A) (hs : findIn X.K (.ref C) (cmpInfo op).2.1 = some (some (.ref f))) (hf : isFn X.K (.ref f) = true) (F : FnR X.prog X.w X.K X.mg X.base (L2.CX X.prog X.w) k f sp) (hx : Passes (L2.CX X.prog X.w) X E)
    {pins : List (Addr × Obj)} {s : Shared} {σ : L2.St} {H : Hp} {x y : V} {v u : Value} {Q : VK} (I : L2.Inv X pins σ H s) (rx : RelV x v) (ry : RelV y u) (hq : rCmpO X.K C sp E x y H Q) : wpAny (model X.prog X.w) A (richCompare op v u) (EP X pins σ Q) X.xe s := by
  obtain ⟨h1, h2, h3⟩ := hq
  obtain ⟨a, dx, fs, rfl, ha⟩ := isIns_get h1
  obtain ⟨t, ty, ht⟩ := rTy_get h2
  obtain rfl : v = Value.ref a := rx
  obtain ⟨od, J⟩ := inst_of I ha
  obtain ⟨m, hF⟩ := I.fr
  refine PySem.W.cmp_K (op := op) sb.room.units0 hF I.ok.mod.kin J (ty_looks I ry ty _) ht hs hf ?_
  exact wpAny_mono (run_sub F sb hx I (vs := [V.ref a, y]) (.cons rfl (.cons ry .nil)) h3) (fun v s' z => back_of z) fun _ _ e => e
theorem op_cmpO {K : Frag} {op : CmpOp} (ho : ∀ a b, compareOp op a b = richCompare op a b) (hs : findIn K (.ref C) (cmpInfo op).2.1 = some (some (.ref f))) (hf : isFn K (.ref f) = true) (F : FnR X.prog X.w K X.mg X.base (L2.CX X.prog X.w) k f sp) (hr : Room k X.A) (hx : Passes (L2.CX X.prog X.w) X E) (hK : X.K = K := by rfl) :
    OpR X (compareOp op) (rCmpO K C sp E) := by
  subst hK
  intro pins s σ H x y v u Q I rx ry hq
  rw [ho]
  exact rc_own (sub_here hr) hs hf F hx I rx ry hq
/-- != by the text's own == -/
def rNeO (K : Frag) (C : Addr) (sp : Sp) (E : XK) : R2 := fun x y H Q => isIns C H x ∧ rTy K y H (fun t => notFirst K C t = true) ∧ sp [x, y] H (fun v H' => ∃ b, v = .bl b ∧ Q (.bl (!b)) H') E
theorem op_neO {K : Frag} (hs : findIn K (.ref C) "__eq__" = some (some (.ref f))) (hf : isFn K (.ref f) = true) (hn : findIn K (.ref C) "__ne__" = some (some (.builtin "object.__ne__"))) (hob : mroIn K C (.type "object") = some true)
    (F : FnR X.prog X.w K X.mg X.base (L2.CX X.prog X.w) k f sp) (hr : Room (k + 1) X.A) (hx : Passes (L2.CX X.prog X.w) X E) (hK : X.K = K := by rfl) : OpR X (compareOp .NotEq) (rNeO K C sp E) := by
  subst hK
  intro pins s σ H x y v u Q I rx ry hq
  obtain ⟨h1, h2, h3⟩ := hq
  obtain ⟨a, dx, fs, rfl, ha⟩ := isIns_get h1
  obtain ⟨t, ty, ht⟩ := rTy_get h2
  obtain rfl : v = Value.ref a := rx
  obtain ⟨od, J⟩ := inst_of I ha
  have hu := hr.units0
  have one : wpAny (model X.prog X.w) X.A (tryCompare (.ref a) "__ne__" u) (fun r s' => ∃ v, r = some v ∧ EP X pins σ Q v s') X.xe s := by
    unfold tryCompare
    simp only [callSpecialIfBound?, bindSpecialIfBound?]
    have hb : bindSpecial (.builtin "object.__ne__") (.ref a) = pure (.builtin "object.__ne__", [.ref a]) := PySem.F.slot_object_ne.bind _
    have cl : wpAny (model X.prog X.w) X.A (call (.builtin "object.__ne__") [.ref a, u]) (EP X pins σ Q) X.xe s := by
      refine wpAny_call (codeAny_call_builtin PySem.F.slot_object_ne.plain PySem.F.cmpEntry_ne (@PySem.W.check_slot (model X.prog X.w) _ _ s "object.__ne__" "object" "__ne__" (.ref a) [u] [] _ PySem.F.cmpKind_ne PySem.F.cmpSplit_ne ?_ (PySem.F.cmpArgs_ne _ _) ?_))
      · exact J.type.andThen (looks_subIn I.kIn hob)
      · have call1 := run_sub F (sub_in1 hr) hx I (vs := [V.ref a, y]) (.cons rfl (.cons ry .nil)) h3
        have hu1 : X.A.in1.units < cLine := hr.in1.units0
        unfold Builtin.«object.__ne__»
        repeat (first
          | with_reducible refine wpAny_cRoomFor hu1 ?_
          | (refine wpAny_bind (m := callSpecialIfBound? (.ref a) (Str.ofString "__eq__") [u])
              (ifBound_K I.kIn J hs hf (wpAny_mono call1 (fun r s' hr => by
                obtain ⟨z, H', I', rz, b, rfl, hq⟩ := hr
                obtain rfl : r = Value.bool b := rz
                have hq : EP X pins σ Q (.bool (!b)) s' := ⟨.bl (!b), H', I', rfl, hq⟩
                repeat (first | exact hq | exact wpAny_pure hq | exact wpAny_truthy_bool hq | (refine wpAny_bind (m := truthy (.bool _)) (wpAny_truthy_bool ?_)) | wp_step)) fun _ _ e => e)))
          | wp_step)
    refine wpAny_bind (wpAny_holding (wpAny_bind (wpAny_bind (wpAny_bind (J.type.here ((looks_findIn I.kIn hn).here ?_))))))
    refine wpAny_bind (wpAny_askSetting (wpAny_ite ?_))
    have fin : wpAny (model X.prog X.w) X.A (call (.builtin "object.__ne__") ([.ref a] ++ [u]) >>= fun v => pure (some v)) (fun r s' => wpAny (model X.prog X.w) X.A (match r with | some .notImplemented | none => pure none | some v => pure (some v)) (fun r s' => ∃ v, r = some v ∧ EP X pins σ Q v s') X.xe s') X.xe s :=
      wpAny_bind (wpAny_mono cl (fun v s' h' => wpAny_pure (by
        have := back_of h'
        cases v <;> first | exact this.elim | exact wpAny_pure ⟨_, rfl, this⟩)) fun _ _ h' => h')
    split
    · exact wpAny_bind (wpAny_of_eq hb (wpAny_pure (by exact fin)))
    · exact wpAny_tryCatch (wpAny_bind (wpAny_of_eq hb (wpAny_pure (by exact fin))))
  show wpAny (model X.prog X.w) X.A (richCompare .NotEq (.ref a) u) (EP X pins σ Q) X.xe s
  unfold richCompare
  simp only [oneThing_ref]
  refine wpAny_holding (wpAny_bind (wpAny_cRoomFor hu ?_))
  refine wpAny_bind (J.type.here (wpAny_bind ((ty_looks I ry ty _).here ?_)))
  split
  · rename_i q
    have e : subIn X.K t (.ref C) = some false := by
      rcases Bool.or_eq_true_iff.mp ht with e | e
      · rw [beq_iff_eq.mp e] at q; simp at q
      · exact beq_iff_eq.mp e
    refine wpAny_bind ((looks_subIn I.kIn e).here ?_)
    simp only [Bool.false_eq_true, if_false]
    refine wpAny_bind (wpAny_mono one (fun r s' z => ?_) fun _ _ e => e)
    obtain ⟨v, rfl, hq⟩ := z
    exact wpAny_pure hq
  · refine wpAny_bind (wpAny_pure ?_)
    simp only [Bool.false_eq_true, if_false]
    refine wpAny_bind (wpAny_mono one (fun r s' z => ?_) fun _ _ e => e)
    obtain ⟨v, rfl, hq⟩ := z
    exact wpAny_pure hq
/-! ### -x, bool(x), x op= y -/
def rUnO (C : Addr) (sp : Sp) (E : XK) : V → Hp → VK → Prop := fun x H Q => isIns C H x ∧ sp [x] H Q E
theorem un_negO (hs : findIn X.K (.ref C) "__neg__" = some (some (.ref f))) (hf : isFn X.K (.ref f) = true) (F : FnR X.prog X.w X.K X.mg X.base (L2.CX X.prog X.w) k f sp) (hr : Room k X.A) (hx : Passes (L2.CX X.prog X.w) X E) : UnR X (unaryOp .USub) (rUnO C sp E) := by
  intro pins s σ H x v Q I rx hq
  obtain ⟨h1, h3⟩ := hq
  obtain ⟨a, dx, fs, rfl, ha⟩ := isIns_get h1
  obtain rfl : v = Value.ref a := rx
  obtain ⟨od, J⟩ := inst_of I ha
  obtain ⟨m, hF⟩ := I.fr
  exact ksp_neg hF I.ok.mod.kin J hs hf (run_sub F (sub_here hr) hx I (vs := [V.ref a]) (.cons rfl .nil) h3)
end
theorem bool_newO {prog : Program} {w : World} {x : Value} : MeetsIn prog w (Builtin.«bool.__new__» ⟨[.type "bool", x], []⟩) (fun A R s => wpAny (model prog w) A.in1 (truthy x) (fun b s' => R (.ok (.ret (.bool b))) s') (fun e s' => R (.error e) s') s) := by
  intro A R s hs
  obtain ⟨hp, g, d, tk, os⟩ := s
  have f1 := PySem.F.conv_sub_bool
  unfold Builtin.«bool.__new__»
  repeat (any_goals (first | assumption | with_reducible refine wpAny_bind (m := truthy x) (wpAny_mono hs (fun b s' z => ?_) fun _ _ e => e) | wp_step))
  all_goals exact z
section
variable {X : Cx} {C f : Addr} {k : Nat} {sp : Sp} {E : XK}
def rBoolO (C : Addr) (sp : Sp) (E : XK) : List V → Hp → VK → Prop := fun vs H Q => match vs with
  | [x] => isIns C H x ∧ sp [x] H (fun v H' => ∃ b, v = .bl b ∧ Q (.bl b) H') E
  | _ => False
theorem call_boolO (hs : findIn X.K (.ref C) "__bool__" = some (some (.ref f))) (hf : isFn X.K (.ref f) = true) (F : FnR X.prog X.w X.K X.mg X.base (L2.CX X.prog X.w) k f sp) (hr : Room (k + 2) X.A) (hx : Passes (L2.CX X.prog X.w) X E) : CallR X (.type "bool") (rBoolO C sp E) := by
  intro pins s σ H xs us Q I r h
  unfold rBoolO at h
  split at h
  · rename_i x
    obtain ⟨h1, h3⟩ := h
    obtain ⟨a, dx, fs, rfl, ha⟩ := isIns_get h1
    obtain ⟨u, rfl, ru⟩ := vals1 r
    obtain rfl : u = Value.ref a := ru
    obtain ⟨od, J⟩ := inst_of I ha
    obtain ⟨m, hF⟩ := I.fr
    refine callType_newIn PySem.F.called_bool PySem.F.newNe_bool (PySem.F.typeCall_bool_1 _) (PySem.F.newCall_bool_1 _) (fun obj => PySem.F.args_object_init_2 obj _) PySem.F.entry_bool_new bool_newO ?_
    refine truthy_K hF I.ok.mod.kin J hs hf ?_
    refine wpAny_mono (run_sub F (A := X.A.in1.in1) ⟨hr.in1.in1, rfl⟩ hx I (vs := [V.ref a]) (.cons rfl .nil) h3) (fun v s' z => ?_) fun _ _ e => e
    obtain ⟨y, H', I', ry, b, rfl, q⟩ := z
    obtain rfl : v = Value.bool b := ry
    exact ⟨rfl, .bl b, H', I', rfl, q⟩
  · exact h.elim
end
section
variable {X : Cx} {C f g : Addr} {k : Nat} {sp : Sp} {E : XK} {op : Operator}
theorem no_inplace {M : Model} {h : Heap} {K : Frag} {cd : ClassData} {nm : String} {add : Bool} (X : K.In h) (hc : clsIn K C = some cd) (hm : cd.mro = [.ref C, .type "object"]) (hs : findIn K (.ref C) (dunderI nm) = some none) (ho : typeLookup (.type "object") (dunderI nm) = pure none) :
    Looks M h (fillsInplaceSlot (.ref C) nm add) false := by
  intro A Q E s k q
  unfold fillsInplaceSlot
  refine wpAny_bind ((looks_clsIn X hc).andThen (f := fun cd => pure cd.mro) .now A _ E s k ?_)
  rw [hm, List.anyM_cons]
  refine wpAny_bind ?_
  refine wpAny_bind (looks_findIn X hs A _ E s k ?_)
  refine wpAny_pure ?_
  simp only [Bool.false_eq_true, if_false]
  rw [List.anyM_cons]
  refine wpAny_bind (wpAny_bind (wpAny_of_eq ho (wpAny_pure ?_)))
  simp only [Bool.false_eq_true, if_false]
  exact wpAny_pure q
def twoMro (K : Frag) (C : Addr) : Bool := (clsIn K C).any fun cd => cd.mro == [.ref C, .type "object"]
theorem iop_ownL {K : Frag} (hc : selfFirst K C = true) (hm : twoMro K C = true) (hi : findIn K (.ref C) (dunderI op.info.2) = some none) (ho : typeLookup (.type "object") (dunderI op.info.2) = pure none) (B : BinM K C op.info.2 f g)
    (F : FnR X.prog X.w K X.mg X.base (L2.CX X.prog X.w) k f sp) (hr : Room k X.A) (hx : Passes (L2.CX X.prog X.w) X E) (hK : X.K = K := by rfl) : PIp X op (rOpL K C op.info.2 sp E) := by
  subst hK
  intro pins s σ H x y v u Q I rx ry hq
  have one := ow_L1 hc B F hr hx I rx ry hq
  obtain ⟨h1, h2, h3⟩ := hq
  obtain ⟨a, dx, fs, rfl, ha⟩ := isIns_get h1
  obtain rfl : v = Value.ref a := rx
  obtain ⟨od, J⟩ := inst_of I ha
  obtain ⟨cd, hcd, hm⟩ := any_some hm
  unfold inplaceOp
  refine wpAny_holding (wpAny_bind (J.type.here (wpAny_bind ((no_inplace I.kIn hcd (beq_iff_eq.mp hm) hi ho).here ?_))))
  simp only [Bool.false_eq_true, if_false]
  refine wpAny_bind (wpAny_mono one (fun r s' z => ?_) fun _ _ e => e)
  obtain ⟨z, rfl, q⟩ := z
  exact wpAny_pure q
end
end Wp

set_option maxHeartbeats 4000000
namespace Wp
open PySem PySem.W L2 PyProof.Rows
section
variable {prog : Program} {w : World} {A : Around} {E : Value → Shared → Prop} {s : Shared} {x : Addr} {ox : Obj}
open PySem.SeqAt MeetsSeq MeetsSeq2 MeetsSeq3 SeqRoads2
open AutoSeq1 (wpAny_loadPart')
theorem none_eq_ref {Q : Value → Shared → Prop} (hx : s.heap.get? x = some ox) (h : Q .notImplemented s) : wpAny (model prog w) A (call (.builtin "NoneType.__eq__") [.none, .ref x]) Q E s := by
  refine GQ.call_here PySem.F.slot_NoneType_eq (by rfl) PySem.F.entry_NoneType_eq (PySem.F.args_NoneType_eq_2 _ _) ?_
  obtain ⟨hp, g, d, tk, os⟩ := s
  wp_walk using wpAny_loadPart' hx
  exact h
theorem str_eq_ref {z : Str} {t : Tok} {Q : Value → Shared → Prop} (hx : s.heap.get? x = some ox) (hd : ox.data = .plain) (h : Q .notImplemented s) : wpAny (model prog w) A (call (.builtin "str.__eq__") [.str z t, .ref x]) Q E s := by
  obtain ⟨oc, od, dt, sl⟩ := ox
  simp only at hd
  subst hd
  refine GQ.call_here PySem.F.slot_str_eq (by rfl) PySem.F.entry_str_eq (PySem.F.args_str_eq_2 _ _) ?_
  obtain ⟨hp, g, d, tk, os⟩ := s
  wp_walk using wpAny_loadPart' hx
  exact h
theorem tup_eq_ref {l : Addr} {items : Array Value} {K : Frag} {C : Addr} {Q : Value → Shared → Prop} (X : K.In s.heap) (hl : s.heap.IsTuple l items) (hx : s.heap.get? x = some ox) (hc : ox.cls = .ref C) (hs : subIn K (.ref C) (.type "tuple") = some false) (h : Q .notImplemented s) : wpAny (model prog w) A (call (.builtin "tuple.__eq__") [.ref l, .ref x]) Q E s := by
  obtain ⟨⟨cls, dd, data, sl⟩, ho, hc', n, hd⟩ := id hl
  simp only at hc' hd
  subst hc' hd
  refine GQ.call_here PySem.F.slot_tuple_eq ⟨_, ho, rfl⟩ PySem.F.entry_tuple_eq (PySem.F.args_tuple_eq_2 _ _) ?_
  have f1 := AutoSeq1.sub_tuple_tuple
  obtain ⟨hp, g, d, tk, os⟩ := s
  have f2 : Looks (model prog w) hp (isSubtype (.ref C) (.type "tuple")) false := looks_subIn X hs
  obtain ⟨oc, od, dt, sl2⟩ := ox
  simp only at hc
  subst hc
  wp_walk using wpAny_loadPart' ho, wpAny_loadPart' hx, f2.here
  exact h
/-- the loop of list.__contains__ -/
theorem contains_loopG {R : Result → Shared → Prop} (l : Addr) (v : Value) (n : Nat) (I : Nat → Shared → Prop)
    (hl : ∀ i s, I i s → ∃ (items : Array Value) (m : Nat), s.heap.get? l = some { cls := .type "list", data := .seq items m } ∧ items.size = n ∧
      ∀ h : i < items.size, wpAny (model prog w) A.in1 (eqBool items[i] v) (fun r s' => if r = true then R (.ok (.ret (.bool true))) s' else I (i + 1) s') (fun e s' => R (.error e) s') s)
    (fin : ∀ s, I n s → R (.ok (.ret (.bool false))) s) (k : Nat) : ∀ i : Nat, n - i = k → i ≤ n → ∀ s, I i s →
      wpAny (model prog w) A.in1 (Builtin.«list.__contains__.loop» ⟨[.ref l, v, rawInt i], []⟩) (GQ.FinOf prog w A R) (fun e s' => R (.error e) s') s := by
  induction k with
  | zero =>
    intro i hk hi s h
    obtain ⟨items, m, h1, hs, _⟩ := hl _ _ h
    have hi' : i = n := by omega
    have hR := fin s (hi' ▸ h)
    obtain ⟨hp, g, d, tk, os⟩ := s
    wp_walk using wpAny_loadPart' h1
    have hi : items[((i : Nat) : Int).toNat]? = none := by simp; omega
    rw [hi]
    wp_walk
    exact hR
  | succ k ih =>
    intro i hk hi s h
    obtain ⟨items, m, h1, hs, turn⟩ := hl _ _ h
    have hlt : i < items.size := by omega
    have ht := turn hlt
    obtain ⟨hp, g, d, tk, os⟩ := s
    wp_walk using wpAny_loadPart' h1
    have hi : items[((i : Nat) : Int).toNat]? = some items[i] := by simp [hlt]
    have hc : ((i : Int) + 1) = ((i + 1 : Nat) : Int) := by omega
    rw [hi]
    refine wpAny_bind (wpAny_mono ht (fun r s2 h2 => ?_) fun _ _ x => x)
    obtain ⟨hp2, g2, d2, tk2, os2⟩ := s2
    cases r with
    | true =>
      wp_walk
      exact h2
    | false =>
      have hrec := ih (i + 1) (by omega) (by omega) _ h2
      wp_walk
      rw [hc]
      exact ⟨plainId_quiet plain_contains_loop _, codeAny_builtin entry_contains_loop (by
        rw [Around.under_plainId plain_contains_loop _]
        exact hrec)⟩
theorem in_listG {Q : Value → Shared → Prop} (l : Addr) (v : Value) (n : Nat) (I : Nat → Shared → Prop)
    (hl : ∀ i s, I i s → ∃ (items : Array Value) (m : Nat), s.heap.get? l = some { cls := .type "list", data := .seq items m } ∧ items.size = n ∧
      ∀ h : i < items.size, wpAny (model prog w) A.in1 (eqBool items[i] v) (fun r s' => if r = true then Q (.bool true) s' else I (i + 1) s') E s)
    (fin : ∀ s, I n s → Q (.bool false) s) (h : I 0 s) : wpAny (model prog w) A (compareOp .In v (.ref l)) Q E s := by
  obtain ⟨items, m, h1, hs, turn⟩ := hl _ _ h
  show wpAny _ A (do return .bool (← contains (.ref l) v)) Q E s
  refine wpAny_bind (wpAny_contains_slot (T := "list") ⟨_, h1, rfl⟩ PySem.F.slot_list_contains (GQ.call_here PySem.F.slot_list_contains ⟨_, h1, rfl⟩ PySem.F.entry_list_contains (PySem.F.args_list_contains_2 _ _) ?_))
  have hrec := contains_loopG (A := A) (R := wants (fun r s' => wpAny (model prog w) A (truthy r) (fun b s' => wpAny (model prog w) A (pure (.bool b)) Q E s') E s') E) l v n I (fun i s q => by
    obtain ⟨items, m, h1, hs, turn⟩ := hl i s q
    refine ⟨items, m, h1, hs, fun hh => wpAny_mono (turn hh) (fun r s' z => ?_) fun _ _ e => e⟩
    cases r with
    | true => exact wpAny_truthy_bool (wpAny_pure z)
    | false => exact z) (fun s q => wpAny_truthy_bool (wpAny_pure (fin s q))) _ 0 rfl (Nat.zero_le _) s h
  obtain ⟨hp, g, d, tk, os⟩ := s
  wp_walk using wpAny_loadPart' h1
  exact ⟨plainId_quiet plain_contains_loop _, codeAny_builtin entry_contains_loop (by
    rw [Around.under_plainId plain_contains_loop _]
    exact hrec)⟩
end
/-! ### x in a list, x an own instance with its own ==, the items built-in values -/
/-- what declines == -/
def decl (K : Frag) (C : Addr) (y : V) (H : Hp) : Prop := match y with
  | .non => subIn K (.ref C) (.type "NoneType") = some false
  | .str _ => subIn K (.ref C) (.type "str") = some false
  | .ref a => (match H a with
    | some (.tup _) => subIn K (.ref C) (.type "tuple") = some false
    | _ => False)
  | _ => False
def rInIt (K : Frag) (C : Addr) (sp : Sp) (E : XK) (l : Addr) (all : List V) (x : V) : List V → Hp → VK → Prop
  | [], H, Q => Q (.bl false) H
  | y :: ys, H, Q => decl K C y H ∧ sp [x, y] H (fun v H' => ∃ b, v = .bl b ∧ if b = true then Q (.bl true) H' else H' l = some (.lst all) ∧ isIns C H' x ∧ rInIt K C sp E l all x ys H' Q) E
def rInO (K : Frag) (C : Addr) (sp : Sp) (E : XK) : R2 := fun x y H Q => isIns C H x ∧ (match y with
  | .ref l => (match H l with
    | some (.lst xs) => rInIt K C sp E l xs x xs H Q
    | _ => False)
  | _ => False)
section
variable {X : Cx} {C f : Addr} {k : Nat} {sp : Sp} {E : XK}
theorem eqBool_rc {prog : Program} {w : World} {A : Around} {E : Value → Shared → Prop} {s : Shared} {u : Value} {a : Addr} {Q : Bool → Shared → Prop} (hne : (u == .ref a) = false) (h : wpAny (model prog w) A (richCompare .Eq u (.ref a)) (fun v s' => ∃ r, v = .bool r ∧ Q r s') E s) : wpAny (model prog w) A (eqBool u (.ref a)) Q E s := by
  unfold eqBool
  refine wpAny_holding ?_
  rw [hne]
  simp only [Bool.false_eq_true, if_false]
  cases u <;> (first
    | (refine wpAny_bind (wpAny_mono h (fun v s' hv => ?_) fun _ _ x => x)
       obtain ⟨r, rfl, q⟩ := hv
       exact wpAny_truthy_bool q))
/-- u == x, u's own method declines -/
theorem rc_refl {A : Around} {T id : String} (sb : Sub X k A) (hs : findIn X.K (.ref C) "__eq__" = some (some (.ref f))) (hf : isFn X.K (.ref f) = true) (F : FnR X.prog X.w X.K X.mg X.base (L2.CX X.prog X.w) k f sp) (hx : Passes (L2.CX X.prog X.w) X E)
    {pins : List (Addr × Obj)} {s : Shared} {σ : L2.St} {H : Hp} {y : V} {u : Value} {a dx : Addr} {fs : List (Str × V)} {Q : VK} (I : L2.Inv X pins σ H s) (ry : RelV y u) (ha : H a = some (.ins C dx fs)) (hone : oneThing? .Eq u (.ref a) = none) (hT : s.TypeIs u T) (slot : Slot T (cmpInfo .Eq).2.1 id)
    (hsub : subIn X.K (.ref C) (.type T) = some false)
    (dec : ∀ Q : Value → Shared → Prop, Q .notImplemented s → wpAny (model X.prog X.w) A (call (.builtin id) [u, .ref a]) Q X.xe s) (h3 : sp [.ref a, y] H Q E) : wpAny (model X.prog X.w) A (richCompare .Eq u (.ref a)) (EP X pins σ Q) X.xe s := by
  obtain ⟨od, J⟩ := inst_of I ha
  unfold richCompare
  simp only [hone]
  refine wpAny_holding (wpAny_bind (wpAny_cRoomFor sb.room.units0 ?_))
  refine wpAny_bind (wpAny_typeOf hT (wpAny_bind (J.type.here ?_)))
  have e : (Value.type T != Value.ref C) = true := rfl
  simp only [e, if_true]
  refine wpAny_bind ((looks_subIn I.kIn hsub).here ?_)
  simp only [Bool.false_eq_true, if_false, Bool.not_false, if_true]
  refine wpAny_bind (wpAny_tryCompare_declines hT slot (dec _ ⟨rfl, ?_⟩))
  refine wpAny_bind ?_
  unfold tryCompare
  refine wpAny_bind (ifBound_K I.kIn J hs hf (wpAny_mono (run_sub F sb hx I (vs := [V.ref a, y]) (.cons rfl (.cons ry .nil)) h3) (fun v s' z => ?_) fun _ _ e => e))
  have := back_of z
  cases v <;> first | exact this.elim | exact wpAny_pure (wpAny_pure this)
theorem rc_decl {A : Around} (sb : Sub X k A) (hs : findIn X.K (.ref C) "__eq__" = some (some (.ref f))) (hf : isFn X.K (.ref f) = true) (F : FnR X.prog X.w X.K X.mg X.base (L2.CX X.prog X.w) k f sp) (hx : Passes (L2.CX X.prog X.w) X E)
    {pins : List (Addr × Obj)} {s : Shared} {σ : L2.St} {H : Hp} {y : V} {u : Value} {a dx : Addr} {fs : List (Str × V)} {Q : VK} (I : L2.Inv X pins σ H s) (ry : RelV y u) (ha : H a = some (.ins C dx fs)) (hd : decl X.K C y H) (h3 : sp [.ref a, y] H Q E) :
    (u == .ref a) = false ∧ wpAny (model X.prog X.w) A (richCompare .Eq u (.ref a)) (EP X pins σ Q) X.xe s := by
  obtain ⟨od, J⟩ := inst_of I ha
  unfold decl at hd
  split at hd
  · obtain rfl : u = Value.none := ry
    exact ⟨rfl, rc_refl sb hs hf F hx I (y := .non) rfl ha rfl (by rfl) PySem.F.slot_NoneType_eq hd (fun Q q => none_eq_ref J.at_ q) h3⟩
  · obtain ⟨t, rfl⟩ := id ry
    exact ⟨rfl, rc_refl sb hs hf F hx I ry ha rfl (by rfl) PySem.F.slot_str_eq hd (fun Q q => str_eq_ref J.at_ rfl q) h3⟩
  · split at hd
    · rename_i b _ xs hb
      obtain rfl : u = Value.ref b := ry
      obtain ⟨its, r, e, z⟩ := I.tuple (SqT.of hb)
      obtain ⟨o, ho, hc, n, hd'⟩ := id e
      have hne : b ≠ a := fun z => by rw [z, ha] at hb; cases hb
      refine ⟨by simpa using hne, rc_refl sb hs hf F hx I (y := .ref b) rfl ha (by simp only [oneThing_ref]) ⟨o, ho, hc⟩ PySem.F.slot_tuple_eq hd (fun Q q => tup_eq_ref I.kIn e J.at_ rfl hd q) h3⟩
    · exact hd.elim
  · exact hd.elim
theorem op_inO {K : Frag} (hs : findIn K (.ref C) "__eq__" = some (some (.ref f))) (hf : isFn K (.ref f) = true) (F : FnR X.prog X.w K X.mg X.base (L2.CX X.prog X.w) k f sp) (hr : Room (k + 1) X.A) (hx : Passes (L2.CX X.prog X.w) X E) (hK : X.K = K := by rfl) : OpR X (compareOp .In) (rInO K C sp E) := by
  subst hK
  intro pins s σ H x y v u Q I rx ry hq
  obtain ⟨h1, h2⟩ := hq
  split at h2
  · split at h2
    · rename_i l _ xs hl
      obtain rfl : u = Value.ref l := ry
      obtain ⟨a, dx, fs, rfl, ha⟩ := isIns_get h1
      obtain rfl : v = Value.ref a := rx
      refine in_listG l (.ref a) xs.length (fun i s' => ∃ H', L2.Inv X pins σ H' s' ∧ H' l = some (.lst xs) ∧ isIns C H' (.ref a) ∧ rInIt X.K C sp E l xs (.ref a) (xs.drop i) H' Q) (fun i s' q => ?_) (fun s' q => ?_) ⟨H, I, hl, h1, by rw [List.drop_zero]; exact h2⟩
      · obtain ⟨H', I', hl', h1', q⟩ := q
        obtain ⟨z, its, m, r, e⟩ := I'.hok l _ hl'
        refine ⟨its.toArray, m, e, by rw [List.size_toArray, ← r.length], fun hi => ?_⟩
        have hi' : i < xs.length := by rw [r.length]; simpa using hi
        rw [List.drop_eq_getElem_cons hi'] at q
        obtain ⟨hd, q⟩ := q
        obtain ⟨w', hw, rw'⟩ := r.get (List.getElem?_eq_getElem hi')
        have hi2 : i < its.length := by simpa using hi
        rw [List.getElem?_eq_getElem hi2] at hw
        have ew : its.toArray[i] = w' := by simpa using Option.some.inj hw
        rw [ew]
        obtain ⟨a2, dx', fs', ea, ha'⟩ := isIns_get h1'
        cases ea
        obtain ⟨hne, rc⟩ := rc_decl (sub_in1 hr) hs hf F hx I' rw' ha' hd q
        refine eqBool_rc hne (wpAny_mono rc (fun v s2 z => ?_) fun _ _ e => e)
        obtain ⟨y', H2, I2, r2, b, rfl, q2⟩ := z
        obtain rfl : v = Value.bool b := r2
        refine ⟨b, rfl, ?_⟩
        cases b with
        | true =>
          rw [if_pos rfl] at q2 ⊢
          exact ⟨.bl true, H2, I2, rfl, q2⟩
        | false =>
          rw [if_neg Bool.false_ne_true] at q2 ⊢
          exact ⟨H2, I2, q2⟩
      · obtain ⟨H', I', hl', h1', q⟩ := q
        rw [List.drop_length] at q
        exact ⟨.bl false, H', I', rfl, q⟩
    · exact h2.elim
  · exact h2.elim
end
end Wp

set_option maxHeartbeats 4000000
namespace Wp
open PySem PySem.W L2 PyProof.Rows
theorem str_newO {prog : Program} {w : World} {v : Value} : MeetsIn prog w (Builtin.«str.__new__» ⟨[.type "str", v], []⟩) (fun A R s => wpAny (model prog w) A.in1 (Builtin.Str.strOf v) (fun r s' => R (.ok (.ret r)) s') (fun e s' => R (.error e) s') s) := by
  intro A R s h
  rw [str_new_tree v]
  refine wpAny_bind (wpAny_pure ?_)
  refine wpAny_bind (wpAny_of_eq isSubtype_str_str ?_)
  exact wpAny_bind (wpAny_mono h (fun r s' h' => wpAny_pure h') fun _ _ e => e)
section
variable {X : Cx} {C f : Addr} {k : Nat} {sp : Sp} {E : XK}
theorem strOf_own {prog : Program} {w : World} {A : Around} {E : Value → Shared → Prop} {s : Shared} {K : Frag} {x C f : Addr} {ox : Obj} {od : Option Obj} {Q : Value → Shared → Prop} (hu : A.units < cLine) (X : K.In s.heap) (I : W.InstAt s.heap x ox C od) (hs : findIn K (.ref C) "__str__" = some (some (.ref f))) (hf : isFn K (.ref f) = true)
    (h : wpAny (model prog w) A (call (.ref f) [.ref x]) (fun v s' => ∃ y t, v = .str y t ∧ Q v s') E s) : wpAny (model prog w) A (Builtin.Str.strOf (.ref x)) Q E s := by
  unfold Builtin.Str.strOf
  have e : Builtin.Str.isExactStr (.ref x) = false := rfl
  simp only [e, Bool.false_eq_true, if_false]
  refine wpAny_bind (wpAny_cRoomFor hu ?_)
  refine wpAny_bind (m := callSpecial? (.ref x) (Str.ofString "__str__")) (special_fn X I hs (beq_iff_eq.mp hf) (wpAny_mono h (fun v s' z => ?_) fun _ _ z => z))
  obtain ⟨y, t, rfl, q⟩ := z
  refine wpAny_bind (wpAny_pure ?_)
  simp only [Option.isNone_some, Bool.false_eq_true, if_false]
  exact wpAny_pure q
def rStrO (C : Addr) (sp : Sp) (E : XK) : List V → Hp → VK → Prop := fun vs H Q => match vs with
  | [x] => isIns C H x ∧ sp [x] H (fun v H' => ∃ z, v = .str z ∧ Q (.str z) H') E
  | _ => False
theorem call_strO (hs : findIn X.K (.ref C) "__str__" = some (some (.ref f))) (hf : isFn X.K (.ref f) = true) (F : FnR X.prog X.w X.K X.mg X.base (L2.CX X.prog X.w) k f sp) (hr : Room (k + 2) X.A) (hx : Passes (L2.CX X.prog X.w) X E) : CallR X (.type "str") (rStrO C sp E) := by
  intro pins s σ H xs us Q I r h
  unfold rStrO at h
  split at h
  · rename_i x
    obtain ⟨h1, h3⟩ := h
    obtain ⟨a, dx, fs, rfl, ha⟩ := isIns_get h1
    obtain ⟨u, rfl, ru⟩ := vals1 r
    obtain rfl : u = Value.ref a := ru
    obtain ⟨od, J⟩ := inst_of I ha
    refine callType_newIn PySem.F.called_str (by decide) (PySem.F.typeCall_str_1 _) (PySem.F.newCall_str_1 _) (fun obj => PySem.F.args_object_init_2 obj _) PySem.F.entry_str_new str_newO ?_
    refine strOf_own hr.in1.in1.units0 I.kIn J hs hf ?_
    refine wpAny_mono (run_sub F (A := X.A.in1.in1) ⟨hr.in1.in1, rfl⟩ hx I (vs := [V.ref a]) (.cons rfl .nil) h3) (fun v s' z => ?_) fun _ _ e => e
    obtain ⟨y, H', I', ry, b, rfl, q⟩ := z
    obtain ⟨t, rfl⟩ := ry
    exact ⟨_, _, rfl, typeIs_str _ _ _, .str b, H', I', ⟨t, rfl⟩, q⟩
  · exact h.elim
end
end Wp

set_option maxHeartbeats 4000000
namespace Wp
open PySem PySem.W L2 PyProof.Rows
/-- the heap without one object -/
def hide (D : Addr) (H : Hp) : Hp := fun a => if a = D then none else H a
theorem hide_at {D b : Addr} {H : Hp} {o : HO} (n : b ≠ D) (h : H b = some o) : hide D H b = some o := by
  unfold hide; rw [if_neg n]; exact h
theorem hide_of {D b : Addr} {H : Hp} {o : HO} (h : hide D H b = some o) : H b = some o := by
  unfold hide at h; split at h
  · cases h
  · exact h
theorem hide_ext {D : Addr} {H H' : Hp} (e : Ext H H') : Ext (hide D H) (hide D H') := by
  intro a h
  unfold hide at h ⊢
  split
  · rfl
  · rename_i n
    rw [if_neg n] at h
    exact e a h
theorem hide_le {D : Addr} {H : Hp} : Ext (hide D H) H := by
  intro a h
  unfold hide at h ⊢
  split
  · rename_i n; rw [if_pos n] at h; exact absurd rfl h
  · rfl
theorem hide_upd {D : Addr} {H : Hp} {o : HO} : hide D (upd H D o) = hide D H := by
  funext a
  unfold hide
  split
  · rfl
  · rename_i n; exact upd_ne n
theorem ext_new {H H' : Hp} {D : Addr} {o : HO} (n : H D = none) (e : Ext H H') : Ext H (upd H' D o) := by
  intro a h
  have na : a ≠ D := fun q => h (q ▸ n)
  rw [upd_ne na]
  exact e a h
theorem new_ne {H : Hp} {D b : Addr} {o : HO} (hD : H D = some o) (hb : H b = none) : b ≠ D := fun e => by rw [e, hD] at hb; cases hb
theorem new_ne' {H : Hp} {D b : Addr} {o : HO} (hD : H D = none) (hb : H b = some o) : b ≠ D := fun e => by rw [e, hD] at hb; cases hb
section
variable {g : TG} {tt : TT} {te : TE} {vs : List Nat} {σ : L2.St} {H : Hp} {Q : VK}
/-- the invariant of a comprehension that only makes -/
def LcI (R : Nat → V → Hp → Prop) (H1 : Hp) (D : Addr) (i : Nat) (H : Hp) : Prop := ∃ ys, ys.length = i ∧ H D = some (.lst ys) ∧ Ext H1 H ∧ ∀ j y, ys[j]? = some y → R j y (hide D H)
theorem LcI.next {R : Nat → V → Hp → Prop} (hR : ∀ i y H H', Ext H H' → R i y H → R i y H') {H1 : Hp} {D : Addr} {i n : Nat} {H : Hp} (nD : H1 D = none) (p : LcI R H1 D i H) (hi : i < n) (hn : n ≤ sizeLine) (y : V) (H4 : Hp) (e : Ext H H4) (r : R i y (hide D H4)) :
    ∃ acc, H4 D = some (.lst acc) ∧ acc.length < sizeLine ∧ LcI R H1 D (i + 1) (upd H4 D (.lst (acc ++ [y]))) := by
  obtain ⟨ys, l, hD, x, all⟩ := p
  refine ⟨ys, e.at hD, by omega, ys ++ [y], by simp [l], upd_at, ext_new nD (x.trans e), fun j z hz => ?_⟩
  rw [hide_upd]
  by_cases q : j < i
  · rw [List.getElem?_append_left (by omega)] at hz
    exact hR _ _ _ _ (hide_ext e) (all j z hz)
  · have q2 : j = i := by
      have := (List.getElem?_eq_some_iff.mp hz).1
      simp at this
      omega
    subst q2
    rw [List.getElem?_append_right (by omega), l] at hz
    simp at hz
    exact hz ▸ r
theorem s_lcR {ta : TA} (n : Nat) (R : Nat → V → Hp → Prop) (hR : ∀ i y H H', Ext H H' → R i y H → R i y H') (hn : n ≤ sizeLine)
    (hs : ∀ D i H' (Z : V → Hp → Prop) (W : Hp → Prop), i < n → H D = none → (∃ acc, H' D = some (.lst acc)) → Ext H H' → (∀ y H4, Ext H' H4 → R i y (hide D H4) → Z y H4) → g (.int i) (wipe σ vs) H' fun σ2 H2 => wipe σ2 vs = wipe σ vs ∧ tt σ2 H2 fun b H3 => if b = true then te σ2 H3 Z else W H3)
    (q : ∀ D ys H', H D = none → Ext H H' → H' D = some (.lst ys) → ys.length = n → (∀ j y, ys[j]? = some y → R j y (hide D H')) → Q (.ref D) H') (hta : ∀ K : List V → Hp → Prop, ta σ H K = K [.int (n : Int)] H := by intro; rfl) : tLc (iRng1 ta) g tt te vs σ H Q := by
  show ta σ H _
  rw [hta]
  refine ⟨n, rfl, by have : (sizeLine : Int) < 2 ^ 62 := by decide
                     omega, by have : (sizeLine : Int) < 2 ^ 62 := by decide
                               omega, fun D nD => ?_⟩
  refine lc_range (LcI R H D) ⟨[], rfl, upd_at, ext_new nD (fun _ _ => rfl), fun j y h => by simp at h⟩ (fun i H' hi p => ?_) (fun H' p => ?_)
  · have e : ((0 : Int) + i) = (i : Int) := by omega
    rw [e]
    have hi' : i < n := by simpa using hi
    refine hs D i H' _ _ hi' nD ?_ ?_ (fun y H4 e r => LcI.next hR nD p hi' hn y H4 e r)
    · obtain ⟨ys, _, h, _⟩ := p
      exact ⟨ys, h⟩
    · obtain ⟨ys, _, _, x, _⟩ := p; exact x
  · obtain ⟨ys, l, h, x, all⟩ := p
    exact q D ys H' nD x h (by simpa using l) all
theorem s_lcL {K : PySem.W.Frag} {tl : TE} {a : Addr} {xs : List V} (R : Nat → V → Hp → Prop) (hR : ∀ i y H H', Ext H H' → R i y H → R i y H') (hl : H a = some (.lst xs)) (hn : xs.length ≤ sizeLine)
    (hs : ∀ D i x H' (Z : V → Hp → Prop) (W : Hp → Prop), xs[i]? = some x → H D = none → (∃ acc, H' D = some (.lst acc)) → Ext H H' → (∀ y H4, Ext H' H4 → R i y (hide D H4) → Z y H4) → g x (wipe σ vs) H' fun σ2 H2 => wipe σ2 vs = wipe σ vs ∧ tt σ2 H2 fun b H3 => if b = true then te σ2 H3 Z else W H3)
    (q : ∀ D ys H', H D = none → Ext H H' → H' D = some (.lst ys) → ys.length = xs.length → (∀ j y, ys[j]? = some y → R j y (hide D H')) → Q (.ref D) H') (hta : ∀ K : V → Hp → Prop, tl σ H K = K (.ref a) H := by intro; exact e_var rfl) : tLc (iList K tl) g tt te vs σ H Q := by
  show tl σ H _
  rw [hta]
  refine ⟨a, rfl, ⟨xs, .inl (.inl hl)⟩, fun D nD => ?_⟩
  refine lc_list (K := K) (xs := xs) (LcI R H D) ⟨[], rfl, upd_at, ext_new nD (fun _ _ => rfl), fun j y h => by simp at h⟩ (fun i H' _ p => ?_) (fun i x H' hx p => ?_) (fun H' p => ?_)
  · obtain ⟨_, _, _, e, _⟩ := p
    exact .inl (.inl (e.at hl))
  · have hi' : i < xs.length := (List.getElem?_eq_some_iff.mp hx).1
    refine hs D i x H' _ _ hx nD ?_ ?_ (fun y H4 e r => LcI.next hR nD p hi' hn y H4 e r)
    · obtain ⟨ys, _, h, _⟩ := p
      exact ⟨ys, h⟩
    · obtain ⟨ys, _, _, x, _⟩ := p; exact x
  · obtain ⟨ys, l, h, x, all⟩ := p
    exact q D ys H' nD x h l all
end
theorem ins_hide {H H' : Hp} {D b C dx : Addr} {fs : List (Str × V)} (hD : ∃ acc, H D = some (.lst acc)) (e : Ext H H') (h : H' b = some (.ins C dx fs)) : hide D H' b = some (.ins C dx fs) := by
  obtain ⟨acc, hD⟩ := hD
  refine hide_at (fun q => ?_) h
  rw [q, e.at hD] at h
  cases h
theorem tup_hide {H H' : Hp} {D b : Addr} {xs : List V} (hD : ∃ acc, H D = some (.lst acc)) (e : Ext H H') (h : H' b = some (.tup xs)) : hide D H' b = some (.tup xs) := by
  obtain ⟨acc, hD⟩ := hD
  refine hide_at (fun q => ?_) h
  rw [q, e.at hD] at h
  cases h
theorem new_hide {H H' : Hp} {D b : Addr} {o : HO} (hD : ∃ acc, H D = some (.lst acc)) (n : H b = none) (h : H' b = some o) : hide D H' b = some o := by
  obtain ⟨acc, hD⟩ := hD
  exact hide_at (new_ne hD n) h
/-- a row of values, read as data -/
theorem d_all {H : Hp} {n : Nat} {d : Nat → PyData} : ∀ (ys : List V) (k : Nat), (∀ j y, ys[j]? = some y → toD H n y = some (d (k + j))) → toDs H n ys = some ((List.range' k ys.length).map d)
  | [], k, h => by simp only [toDs, List.length_nil, List.range'_zero, List.map_nil]
  | y :: ys, k, h => by
    have h0 : toD H n y = some (d k) := by simpa using h 0 y rfl
    have := d_all ys (k + 1) (fun j z hz => by have := h (j + 1) z (by simpa using hz); rwa [show k + (j + 1) = k + 1 + j by omega] at this)
    simp only [toDs, h0, this, List.length_cons, List.range'_succ, List.map_cons]
theorem d_map {H : Hp} {n : Nat} {d : Nat → PyData} {ys : List V} (h : ∀ j y, ys[j]? = some y → toD H n y = some (d j)) : toDs H n ys = some ((List.range ys.length).map d) := by
  have := d_all (d := d) ys 0 (fun j y hy => by simpa using h j y hy)
  rwa [← List.range_eq_range'] at this
mutual
theorem toD_ext {H H' : Hp} (e : Ext H H') : ∀ (n : Nat) (v : V) (d : PyData), toD H n v = some d → toD H' n v = some d
  | 0, v, d, h => by
    cases v <;> simp only [toD] at h ⊢ <;> first | exact h | cases h
  | n + 1, v, d, h => by
    cases v with
    | ref a =>
      simp only [toD] at h ⊢
      cases q : H a with
      | none => rw [q] at h; cases h
      | some o =>
        rw [q] at h
        rw [e.at q]
        split at h <;> first
          | (rename_i q2; cases q2
             obtain ⟨ds, h1, h2⟩ := Option.map_eq_some_iff.mp h
             simp only [toDs_ext e n _ ds h1, ← h2, Option.map_some])
          | cases h
    | _ => simp only [toD] at h ⊢; exact h
theorem toDs_ext {H H' : Hp} (e : Ext H H') : ∀ (n : Nat) (vs : List V) (ds : List PyData), toDs H n vs = some ds → toDs H' n vs = some ds
  | n, [], ds, h => by simp only [toDs] at h ⊢; exact h
  | n, v :: vs, ds, h => by
    simp only [toDs] at h ⊢
    cases q : toD H n v with
    | none => rw [q] at h; cases h
    | some d =>
      rw [q] at h
      cases q2 : toDs H n vs with
      | none => rw [q2] at h; cases h
      | some ds2 =>
        rw [q2] at h
        rw [toD_ext e n v d q, toDs_ext e n vs ds2 q2]
        exact h
end
/-- one road of two that go on alike -/
theorem if_join {p : Bool} {dp : Decidable (p = true)} {H0 : Hp} {A R : Hp → Prop} (h : ∀ H, Ext H0 H → R H) (ha : p = true → (∀ H, Ext H0 H → R H) → ∀ H, Ext H0 H → A H) : ∀ H, Ext H0 H → @ite _ (p = true) dp (A H) (R H) := by
  intro H x
  split
  · rename_i q; exact ha q h H x
  · exact h H x
end Wp

set_option maxHeartbeats 4000000
namespace Wp
open PySem PySem.W L2 PyProof.Rows
/-! ### the head's Hook with a row of Bools of one's own -/
abbrev AlY : Type := He.AlD × Bool
def obsY (n : Nat) (fa : List He.Fa) (fn : List He.DefD) (ex : Frag → List Bool) (g : Addr → Option Obj) : AlY := (He.obsD fa fn (He.frG g (He.asD g n)), (ex (He.frG g (He.asD g n))).all id)
structure SaysY (fa : List He.Fa) (fn : List He.DefD) (ex : Frag → List Bool) (K : Frag) : Prop where
  d : He.SaysD fa fn K
  more : (ex K).all id = true
def hookY (n : Nat) (fa : List He.Fa) (fn : List He.DefD) (ex : Frag → List Bool) : PySem.W.Hook where
  α := AlY
  obs := fun s => obsY n fa fn ex s.heap.get?
  val := fun _ => (He.valD fn, true)
  says := fun _ h => ∃ K : Frag, K.In h ∧ SaysY fa fn ex K
  of := fun _ _ e => ⟨_, He.frG_in, ⟨congrArg (fun z : AlY => z.1) e, congrArg (fun z : AlY => z.2) e⟩⟩
  keeps := fun _ _ _ ⟨K, hK, c⟩ k => ⟨K, PySem.W.Frag.In.keeps hK k, c⟩
theorem obsY_eq {n : Nat} {fa : List He.Fa} {fn : List He.DefD} {ex : Frag → List Bool} {g : Addr → Option Obj} {s : Shared} (h : ∀ a, g a = s.heap.get? a) : obsY n fa fn ex g = (hookY n fa fn ex).obs s := by
  have e : g = s.heap.get? := funext h
  rw [e] <;> rfl
theorem SaysY.at {fa : List He.Fa} {fn : List He.DefD} {ex : Frag → List Bool} {K : Frag} (c : SaysY fa fn ex K) (i : Nat) {b : Bool} (h : (ex K)[i]? = some b := by rfl) : b = true := List.all_eq_true.mp c.more b (List.mem_of_getElem? h)
/-! ### binding by keywords -/
theorem kb_one {K : Frag} {x qual : Str} {params : Arguments} {body : List Stmt} {scope : Scope} {kws : List (Str × V)} {f : Addr} {fd : FuncData} {ps ks : List Str} {n : Nat} (F : FunD K x qual params body scope [] kws f fd)
    (h : ∀ (kV doc pm : Value) (an : Option Addr) (cdv ct : Value) (us ws : List Value), us.length = n → ws.length = ks.length → bindArgs (PySem.W.fnOf x qual params body scope .none kV doc pm an cdv ct) ⟨us, ks.zip ws⟩ = pure (ps.zip (us ++ ws))) : KBn K fd ps n ks (fun us ws => us ++ ws) (fun vs zs => vs ++ zs) := by
  obtain ⟨oc, od, dV, kV, doc, pm, an, cdv, ct, osl, rfl, lk, hcd, hD, hK⟩ := F.ex
  rcases hD with ⟨_, rfl⟩ | ⟨e, _⟩
  · exact ⟨fun s us ws _ l1 l2 => .of_eq (h kV doc pm an cdv ct us ws l1 l2), fun r1 r2 => r1.append r2⟩
  · exact absurd rfl e
theorem kb_rev {K : Frag} {x qual : Str} {params : Arguments} {body : List Stmt} {scope : Scope} {dvs : List V} {kws : List (Str × V)} {f : Addr} {fd : FuncData} {ps ks : List Str} {n : Nat} (F : FunD K x qual params body scope dvs kws f fd) (hd : dvs ≠ [])
    (h : ∀ (T : Addr) (kV doc pm : Value) (an : Option Addr) (cdv ct : Value) (us ws its : List Value), us.length = n → ws.length = ks.length → its.length = dvs.length → ∃ k, bindArgs (PySem.W.fnOf x qual params body scope (.ref T) kV doc pm an cdv ct) ⟨us, ks.zip ws⟩ = seqItems? (.ref T) >>= k ∧ k (some its.toArray) = pure (ps.zip (us ++ ws.reverse))) : KBn K fd ps n ks (fun us ws => us ++ ws.reverse) (fun vs zs => vs ++ zs.reverse) := by
  obtain ⟨oc, od, dV, kV, doc, pm, an, cdv, ct, osl, rfl, lk, hcd, hD, hK⟩ := F.ex
  rcases hD with ⟨e, _⟩ | ⟨_, T, o, its, m, rfl, lT, oT, rT⟩
  · exact absurd e hd
  · refine ⟨fun s us ws X l1 l2 => ?_, fun r1 r2 => r1.append r2.reverse⟩
    obtain ⟨k, e1, e2⟩ := h T kV doc pm an cdv ct us ws its l1 l2 rT.length.symm
    refine BindsTo.of_looks fun M => ?_
    rw [e1]
    exact looks_items X lT oT (.of_pure e2)
/-- the law's end; what an exception does may hang on the world -/
theorem walk_w {l : PySem.W.OpenLaw} {n k : Nat} {q : Program} {loose : List Str} {XP : (Str → Option Value) → Heap → Prop} {YP : World → Heap → Prop} {d : DefRec} {CX : World → CXT} {x : Str}
    (hn : l.most = some n) (hn2 : n ≤ sizeLine) (hdf : d.params.defaults = []) (hr : Room k callerA)
    (F : ∀ (w : World) (mg : Str → Option Value) (fa : Addr) (h : Heap), YP w h → h.Ns mainGlobals mg → mg d.name = some (.ref fa) →
      ∃ (K : Frag) (fd : FuncData) (sp : Sp), K.In h ∧ (∀ (s : Shared) (u : Value), BindsTo s fd ⟨[u], []⟩ [(x, u)]) ∧
        (∀ (H : Hp) (a : Addr) (ns : List Int), ns.length ≤ n → Only H → SqL K H a (ns.map V.int) → sp [.ref a] H (fun v _ => v = .bl true) fun _ _ _ => False) ∧
        ∀ base : Heap, K.In base → base.Ns mainGlobals mg → FnOk l.prog w K mg base (CX w) k fa fd [x] sp)
    (hCX : ∀ (w : World) (H : Hp) (s : Shared) (e : Value) (s' : Shared), CX w [] H s (fun _ _ _ => False) e s' → False) :
    PySem.W.WalkO q loose XP YP l.row.toRowW d [] (fun f vs => PySem.call f vs) := by
  refine Att.attach_call hn hdf fun w s₀ s₁ mg mb fa o pm cd doc a vs ns G Y ho hd hcd hmg hobj hints hlen hg => ?_
  have ⟨K, fd, sp, KX, hb, hsp, hF⟩ := F w mg fa _ Y G.T.g hmg
  exact law_call KX G.T.g G.T.b G.T.builtins G.T.nolimit hg hobj hints (Nat.le_trans hlen hn2) hr hF hb (fun H hO hS => hsp H a ns hlen hO hS) (fun H e s' => hCX w H s₁ e s')
/-- a def of the module, by positions -/
theorem gf_of {P : Program} {w : World} {K : Frag} {mg : Str → Option Value} {base : Heap} {k : Nat} {x name qual : Str} {params : Arguments} {body : List Stmt} {scope : Scope} {kws : List (Str × V)} {f : Addr} {fd : FuncData} {ps : List Str} {sp : Sp} (F : FunD K name qual params body scope [] kws f fd) (hm : mg x = some (.ref f)) (ok : FnOk P w K mg base (L2.CX P w) k f fd ps sp)
    (h : ∀ (kV doc pm : Value) (an : Option Addr) (cdv ct : Value) (us : List Value), us.length = ps.length → bindArgs (PySem.W.fnOf name qual params body scope .none kV doc pm an cdv ct) ⟨us, []⟩ = pure (ps.zip us)) : GF P w K mg base k x sp := ⟨f, hm, F.kp, fnR_of ok (F.bindsN h)⟩
theorem fr_of {P : Program} {w : World} {K : Frag} {mg : Str → Option Value} {base : Heap} {k : Nat} {name qual : Str} {params : Arguments} {body : List Stmt} {scope : Scope} {kws : List (Str × V)} {f : Addr} {fd : FuncData} {ps : List Str} {sp : Sp} (F : FunD K name qual params body scope [] kws f fd) (ok : FnOk P w K mg base (L2.CX P w) k f fd ps sp)
    (h : ∀ (kV doc pm : Value) (an : Option Addr) (cdv ct : Value) (us : List Value), us.length = ps.length → bindArgs (PySem.W.fnOf name qual params body scope .none kV doc pm an cdv ct) ⟨us, []⟩ = pure (ps.zip us)) : FnR P w K mg base (L2.CX P w) k f sp := fnR_of ok (F.bindsN h)
end Wp

set_option maxHeartbeats 4000000
namespace Wp
open PySem PySem.W L2 PyProof.Rows
/-! ### defs that are run where no repr is under way -/
structure FnG (P : Program) (w : World) (K : Frag) (mg : Str → Option Value) (base : Heap) (k : Nat) (f : Addr) (fd : FuncData) (ps : List Str) (sp : Sp) : Prop where
  ln : ∀ vs H Q E, sp vs H Q E → vs.length = ps.length
  go : ∀ (B : Around) (out : List Env) (z : Shared) (H : Hp) (ar : Args) (us : List Value) (vs : List V) (Q : VK) (E : XK), Room k B → B.guards = some [] → Env0 P w K mg base B out z H → BindsTo z fd ar (ps.zip us) → Vals vs us → sp vs H Q E →
    codeAny (model P w) B (.call (.ref f) ar) (CR (L2.CX P w) out P w H z Q E) z
theorem FnG.of {P : Program} {w : World} {K : Frag} {mg : Str → Option Value} {base : Heap} {k : Nat} {f : Addr} {fd : FuncData} {ps : List Str} {sp : Sp} (F : FnOk P w K mg base (L2.CX P w) k f fd ps sp) : FnG P w K mg base k f fd ps sp := ⟨F.len, fun B out z H ar us vs Q E hr _ => F.run B out z H ar us vs Q E hr⟩
theorem okG {P : Program} {w : World} {K : Frag} {mg : Str → Option Value} {base : Heap} {nm ql : Str} {pr : Arguments} {bd : List Stmt} {sc : Scope} {dv : List V} {kd : List (Str × V)} {f : Addr} {fd : FuncData} {N ps : List Str} {k : Nat} {sp : Sp} (F : FunD K nm ql pr bd sc dv kd f fd) (S : FnScope N ps sc) (ln : ∀ vs H Q E, sp vs H Q E → vs.length = ps.length)
    (hb : ∀ (cdv : Value) (B : Around) (out : List Env) (z : Shared) (H : Hp) (vs : List V) (Q : VK) (E : XK), Room k (B.deeper (envOfC ql sc z.heap.objs.size f cdv)) → (B.deeper (envOfC ql sc z.heap.objs.size f cdv)).guards = some [] → sp vs H Q E →
      ∃ t, PSs (cxOf (L2.CX P w) P w K mg base N ql sc f cdv B out z H E) bd t ∧ t { nx := fun _ H' => Q .non H', rt := Q } (L2.start N vs) H) : FnG P w K mg base (k + 1) f fd ps sp := by
  obtain ⟨oc, od, dV, kV, doc, pm, an, cdv, ct, osl, rfl, at_, code, _, _⟩ := F.ex
  refine ⟨ln, fun B out z H ar us vs Q E hr hgd e0 bt r hsp => ?_⟩
  have lv := ln _ _ _ _ hsp
  have inK : K.In z.heap := e0.mod.kin.keeps fun c o e => (e0.bs c o e).1
  have nol : z.heap.NoLimit := e0.mod.nolimit.keeps fun c o e => (e0.bs c o e).1
  have kinds : ∀ y ∈ ps.zip us, sc.names.lookup y.1 = some .local ∨ (sc.names.lookup y.1 = some .cell ∧ ((cellsFrom (z.heap.objs.size + 1) sc.names []).lookup y.1).isSome = true) := by
    rintro ⟨n, v⟩ hy
    rcases S.par n (List.of_mem_zip hy).1 with a | a
    · exact .inl a
    · exact .inr ⟨a, PySem.W.cellsFrom_some _ _ _ (.inl a)⟩
  refine codeAny_call_function hr.depth (inK _ _ at_) rfl S.co S.gen rfl (PySem.W.codeRec_of inK code) (bt _ _ _ _ ?_)
  refine wpAny_newFunctionEnv_cells S.kind kinds fun env he z1 x => ?_
  subst he
  refine ⟨nol.keeps x.toInCall.keep, codeAny_func ?_⟩
  obtain ⟨t, ht, hq⟩ := hb cdv B out z H vs Q E (hr.deeper _) hgd hsp
  have J : Inv (cxOf (L2.CX P w) P w K mg base N ql sc f cdv B out z H E) [] (L2.start N vs) H z1 := inv_start S hr.hd e0 lv r x
  refine wpAny_mono (ht.run [] z1 (L2.start N vs) H _ J hq) (fun fl z' hs => ?_) fun e z' hs => hs
  cases fl with
  | ret u =>
    obtain ⟨v, σ', H', J', rv, q⟩ := hs
    exact ⟨v, H', J'.os, J'.bare, J'.base, J'.hok, rv, q⟩
  | next =>
    obtain ⟨σ', H', J', q⟩ := hs
    exact ⟨V.non, H', J'.os, J'.bare, J'.base, J'.hok, rfl, q⟩
  | brk =>
    obtain ⟨_, _, _, q⟩ := hs
    exact False.elim q
  | cont =>
    obtain ⟨_, _, _, q⟩ := hs
    exact False.elim q
/-- one of the module's defs, by positions -/
def GG (P : Program) (w : World) (K : Frag) (mg : Str → Option Value) (base : Heap) (k : Nat) (x : Str) (sp : Sp) : Prop := ∃ f fd ps, mg x = some (.ref f) ∧ keepIn K (.ref f) = true ∧ FnG P w K mg base k f fd ps sp ∧ Binds K fd ps []
theorem gg_of {P : Program} {w : World} {K : Frag} {mg : Str → Option Value} {base : Heap} {k : Nat} {x nm ql : Str} {pr : Arguments} {bd : List Stmt} {sc : Scope} {kd : List (Str × V)} {f : Addr} {fd : FuncData} {ps : List Str} {sp : Sp} (F : FunD K nm ql pr bd sc [] kd f fd) (hm : mg x = some (.ref f)) (ok : FnG P w K mg base k f fd ps sp)
    (h : ∀ (kV doc pm : Value) (an : Option Addr) (cdv ct : Value) (us : List Value), us.length = ps.length → bindArgs (PySem.W.fnOf nm ql pr bd sc .none kV doc pm an cdv ct) ⟨us, []⟩ = pure (ps.zip us)) : GG P w K mg base k x sp := ⟨f, fd, ps, hm, F.kp, ok, F.bindsN h⟩
section
variable {X : Cx} {k : Nat} {x : Str} {sp : Sp} {E : XK} {e : Expr} {es : List Expr} {t : TA} {p pos : Pos}
theorem pe_gg (g : GG X.prog X.w X.K X.mg X.base k x sp) (hr : Room k X.A) (hgd : X.A.guards = some []) (hx : Passes (L2.CX X.prog X.w) X E) (ha : PA X (e :: es) t) (hg : Gl X x := by rfl) (hdb : (x == ("__debug__" : Str)) = false := by decide)
    (he : starEach (e :: es) X.env = (false, eval e X.env) :: starEach es X.env := by rfl) (hpl : (backTo pos (starEach es X.env)).any (·.1) = false := by rfl) :
    PE X (.Call (.Name x p) (e :: es) [] pos) (tFn sp E t) := by
  obtain ⟨f, fd, ps, hm, hk, F, hb⟩ := g
  refine ⟨fun pins s σ H Q I h => ?_⟩
  refine PySem.wpAny_Call_Name_kw (ld_glob I hg hm ?_ hdb)
  refine PySem.W.callWith_K (h₀ := X.base) I.ok.mod.kin hk (thn (ha.run pos pins s σ H _ I h) fun us s1 ⟨vs, H1, I1, r, q⟩ => ⟨I1.kIn, ?_⟩) he hpl
  have lv := F.ln _ _ _ _ q
  have bq := hb s1 us I1.kIn (by rw [List.append_nil, ← r.length]; exact lv)
  rw [List.append_nil] at bq
  refine wpAny_call (codeAny_mono (F.go X.A X.stack s1 H1 ⟨us, []⟩ us vs Q E hr hgd I1.env0 bq r q) fun r s' hq => ?_)
  cases r with
  | error e => exact hx pins σ H1 s1 e s' I1 hq
  | ok fl =>
    cases fl with
    | ret u => exact I1.after hq
    | next => exact False.elim hq
    | brk => exact False.elim hq
    | cont => exact False.elim hq
/-- repr of data -/
def rRepr : List V → Hp → VK → Prop := fun vs H Q => match vs with
  | [.ref a] => (match toD H 8 (.ref a) with
    | some d => d.showable = true ∧ d.shown.length ≤ sizeLine ∧ Q (.str d.shown) H
    | none => False)
  | [.int i] => i.natAbs.log2 < 1920 ∧ Q (.str (toString i)) H
  | _ => False
theorem cRepr (hgd : X.A.guards = some []) (hu : X.A.units + 64 < cLine) : CallR X (.builtin "repr") rRepr := by
  intro pins s σ H xs us Q I r h
  unfold rRepr at h
  split at h
  · rename_i a
    split at h
    · rename_i d hd
      obtain ⟨h1, h2, q⟩ := h
      obtain ⟨u, rfl, ru⟩ := vals1 r
      obtain ⟨dp, lay, dep⟩ := toD_ok (K := X.K) 8 _ _ hd
      obtain ⟨as, rd⟩ := Dp.reads I d _ _ dp ru
      obtain rfl : u = Value.ref a := ru
      refine repr_of_reads' rd h1 ?_ hgd (by omega) (fun b o e => e) (fun h' u tk kk => ?_) h2
      · exact PyData.noDict_hsm (PyData.hasDict_of_canLay d lay)
      · exact ⟨.str _, H, I.kept (t' := tk) kk, ⟨_, rfl⟩, q⟩
    · exact h.elim
  · rename_i i
    obtain ⟨hz, q⟩ := h
    obtain ⟨u, rfl, t, rfl⟩ := vals1 r
    exact PySem.P.repr_of_int hz ⟨.str _, H, I.tok _, ⟨_, rfl⟩, q⟩
  · exact h.elim
end
/-! ### the law's end, where no repr is under way -/
theorem call_g {P : Program} {w : World} {K : Frag} {mg mb : Str → Option Value} {k : Nat} {fa a : Addr} {fd : FuncData} {x : Str} {sp : Sp} {z : Shared} {us : List Value} {ns : List Int}
    (inK : K.In z.heap) (nsm : z.heap.Ns mainGlobals mg) (nsb : z.heap.Ns builtinsNs mb) (boot : ∀ y : Str, y ≠ "__name__" → mb y = bootBuiltins y) (nol : z.heap.NoLimit) (gn : z.gens = #[])
    (la : z.heap.get? a = some { cls := .type "list", data := .seq us.toArray }) (ia : IntsAre us ns) (ll : ns.length ≤ sizeLine) (hr : Room k callerA)
    (F : ∀ b : Heap, K.In b → b.Ns mainGlobals mg → FnG P w K mg b k fa fd [x] sp) (bind : ∀ (s : Shared) (u : Value), BindsTo s fd ⟨[u], []⟩ [(x, u)])
    (hsp : ∀ H : Hp, Only H → SqL K H a (ns.map V.int) → sp [.ref a] H (fun v _ => v = .bl true) fun _ _ _ => False) :
    codeAny (model P w) callerA (.call (.ref fa) ⟨[.ref a], []⟩) (fun r s' => r = .ok (.ret (.bool true)) ∧ OldK z.heap s'.heap ∧ s'.os = z.os ∧ AllBare s'.gens) z := by
  have vi := vals_ints ia
  have li := ia.length
  have core : ∀ H : Hp, Only H → SqL K H a (ns.map V.int) → HOk P w H z.heap → (∀ c, H c ≠ none → c = a) → (H a ≠ none → K.lookup a = none) →
      codeAny (model P w) callerA (.call (.ref fa) ⟨[.ref a], []⟩) (fun r s' => r = .ok (.ret (.bool true)) ∧ OldK z.heap s'.heap ∧ s'.os = z.os ∧ AllBare s'.gens) z := by
    intro H only sq hok hA hK
    have low : ∀ {c : Addr} {o : Obj}, z.heap.get? c = some o → H c = none → (hidT z.heap H).get? c = some o := fun e n => hidT_get e n
    have nd : ∀ {c : Addr} {o : Obj} {es : Array DictEntry} {ep : Nat}, z.heap.get? c = some o → o.data = .dict es ep → H c = none := by
      intro c o es ep e d
      cases q : H c with
      | none => rfl
      | some u =>
        obtain rfl : c = a := hA c (by rw [q]; simp)
        rw [la] at e
        cases e
        have d2 : Data.seq us.toArray _ = Data.dict es ep := d
        cases d2
    have nsK : ∀ {c : Addr} {m : Str → Option Value}, z.heap.Ns c m → (hidT z.heap H).Ns c m := by
      rintro c m ⟨o, es, ep, e, d, r⟩
      exact ⟨o, es, ep, low e (nd e d), d, r⟩
    have inB : K.In (hidT z.heap H) := by
      intro c o e
      refine low (inK c o e) ?_
      cases q : H c with
      | none => rfl
      | some u =>
        obtain rfl : c = a := hA c (by rw [q]; simp)
        rw [hK (by rw [q]; simp)] at e
        cases e
    have md : Mod K mg (hidT z.heap H) := by
      obtain ⟨mc, h1, h2⟩ := nol
      exact ⟨inB, nsK nsm, ⟨mb, nsK nsb, boot⟩, ⟨mc, nsK h1, h2⟩⟩
    have e0 : Env0 P w K mg (hidT z.heap H) callerA [] z H := by
      refine ⟨rfl, md, fun c o e => of_hidT e, Nat.le_of_eq (hidT_size _ _), trivial, fun c hc => ?_, hok, .of_eq gn⟩
      exact absurd (show c ∈ ([] : List Addr) from hc) (by simp)
    refine codeAny_mono ((F _ inB (nsK nsm)).go callerA [] z H ⟨[.ref a], []⟩ [.ref a] [.ref a] _ _ hr rfl e0 (bind z (.ref a)) (.cons rfl .nil) (hsp H only sq)) fun r s' h => ?_
    cases r with
    | error e =>
      obtain ⟨_, _, _, _, _, _, _, _, _, _, _, _, hE⟩ := h
      exact hE.elim
    | ok fl =>
      cases fl with
      | next => exact False.elim h
      | brk => exact False.elim h
      | cont => exact False.elim h
      | ret u =>
        obtain ⟨v, H', os, bare, un, hok', r', q⟩ := h
        obtain rfl : v = .bl true := q
        obtain rfl : u = Value.bool true := r'
        refine ⟨rfl, OldK.of_keep fun c o e => ?_, os, bare⟩
        cases q : H c with
        | none => exact un.keep c o e q (fun y => absurd (show c ∈ ([] : List Addr) from y) (by simp)) (by simp)
        | some u =>
          rcases only c with y | ⟨oc, xs, y⟩
          · rw [q] at y
            cases y
          · obtain ⟨e1, _⟩ := hok c _ y
            obtain ⟨e2, _⟩ := hok' c _ (un.frzs c oc _ y)
            rw [e] at e1
            cases e1
            exact e2
  cases hk : K.lookup a with
  | some o =>
    have e := inK a o hk
    rw [la] at e
    cases e
    refine core (fun _ => none) (fun _ => .inl rfl) (.inr ⟨_, us.toArray, _, hk, rfl, rfl, rfl, by rw [List.size_toArray, li]; exact ll, by simpa using vi⟩) (fun c u y => ?_) (fun c y => absurd rfl y) fun y => absurd rfl y
    cases (show (none : Option HO) = some u from y)
  | none =>
    refine core (fun c => if c = a then some (.frz { cls := .type "list", data := .seq us.toArray } (.lst (ns.map V.int))) else none) (fun c => ?_) (.inl (.inr ⟨{ cls := .type "list", data := .seq us.toArray }, if_pos rfl⟩)) (fun c u y => ?_) (fun c y => ?_) fun _ => hk
    · by_cases ca : c = a
      · exact .inr ⟨_, _, if_pos ca⟩
      · exact .inl (if_neg ca)
    · by_cases ca : c = a
      · have y2 := (if_pos ca).symm.trans y
        cases y2
        subst ca
        exact ⟨la, by rw [List.length_map]; exact ll, us, _, vi, la⟩
      · have y2 := (if_neg ca).symm.trans y
        cases y2
    · by_cases ca : c = a
      · exact ca
      · exact absurd (if_neg ca) y
theorem walk_g {l : PySem.W.OpenLaw} {n k : Nat} {q : Program} {loose : List Str} {XP : (Str → Option Value) → Heap → Prop} {YP : World → Heap → Prop} {d : DefRec} {x : Str}
    (hn : l.most = some n) (hn2 : n ≤ sizeLine) (hdf : d.params.defaults = []) (hr : Room k callerA)
    (F : ∀ (w : World) (mg : Str → Option Value) (fa : Addr) (h : Heap), YP w h → h.Ns mainGlobals mg → mg d.name = some (.ref fa) →
      ∃ (K : Frag) (fd : FuncData) (sp : Sp), K.In h ∧ (∀ (s : Shared) (u : Value), BindsTo s fd ⟨[u], []⟩ [(x, u)]) ∧
        (∀ (H : Hp) (a : Addr) (ns : List Int), ns.length ≤ n → Only H → SqL K H a (ns.map V.int) → sp [.ref a] H (fun v _ => v = .bl true) fun _ _ _ => False) ∧
        ∀ base : Heap, K.In base → base.Ns mainGlobals mg → FnG l.prog w K mg base k fa fd [x] sp) :
    PySem.W.WalkO q loose XP YP l.row.toRowW d [] (fun f vs => PySem.call f vs) := by
  refine Att.attach_call hn hdf fun w s₀ s₁ mg mb fa o pm cd doc a vs ns G Y ho hd hcd hmg hobj hints hlen hg => ?_
  have ⟨K, fd, sp, KX, hb, hsp, hF⟩ := F w mg fa _ Y G.T.g hmg
  exact call_g KX G.T.g G.T.b G.T.builtins G.T.nolimit hg hobj hints (Nat.le_trans hlen hn2) hr hF hb (fun H hO hS => hsp H a ns hlen hO hS)
end Wp

set_option maxHeartbeats 4000000
namespace Wp
open PySem PySem.W L2 PyProof.Rows
open PySem.SeqAt MeetsSeq MeetsSeq2 MeetsSeq3 SeqRoads2
open AutoSeq1 (wpAny_loadPart')
section
variable {prog : Program} {w : World} {A : Around} {R : Result → Shared → Prop}
/-- two lists, item by item equal: != says no -/
theorem ne_turns (p q : Addr) (N : Nat) (J : Nat → Shared → Prop) (read : GQ.ListI prog w A (fun e s' => R (.error e) s') p q N J) (stop : ∀ s, J N s → R (.ok (.ret (.bool false))) s) (m : Nat) :
    ∀ i : Nat, N - i = m → i ≤ N → ∀ s, J i s → wpAny (model prog w) A.in1 (Builtin.«list.__eq__.loop» ⟨[.ref p, .ref q, rawInt i, rawInt 3], []⟩) (GQ.FinOf prog w A R) (fun e s' => R (.error e) s') s := by
  induction m with
  | zero =>
    intro i hm hi s h
    obtain ⟨xs, ys, n, n2, gx, gy, sx, sy, _⟩ := read _ _ h
    have iN : i = N := by omega
    have out := stop s (iN ▸ h)
    obtain ⟨hp, g, d, tk, os⟩ := s
    wp_walk using wpAny_loadPart' gx, wpAny_loadPart' gy
    have e1 : xs[((i : Nat) : Int).toNat]? = none := by simp; omega
    have e2 : ys[((i : Nat) : Int).toNat]? = none := by simp; omega
    rw [e1, e2]
    wp_walk using wpAny_loadPart' gx, wpAny_loadPart' gy
    have ee : (xs.size != ys.size) = false := by rw [sx, sy]; simp
    first
      | (show R (.ok (.ret (.bool (xs.size != ys.size)))) _
         rw [ee]; exact out)
      | (simp [sx, sy]; exact out)
  | succ m ih =>
    intro i hm hi s h
    obtain ⟨xs, ys, n, n2, gx, gy, sx, sy, turn⟩ := read _ _ h
    have lx : i < xs.size := by omega
    have ly : i < ys.size := by omega
    have tn := turn lx ly
    obtain ⟨hp, g, d, tk, os⟩ := s
    wp_walk using wpAny_loadPart' gx, wpAny_loadPart' gy
    have e1 : xs[((i : Nat) : Int).toNat]? = some xs[i] := by simp [lx]
    have e2 : ys[((i : Nat) : Int).toNat]? = some ys[i] := by simp [ly]
    have e3 : ((i : Int) + 1) = ((i + 1 : Nat) : Int) := by omega
    rw [e1, e2]
    refine wpAny_bind (wpAny_mono tn (fun r s2 h2 => ?_) fun _ _ x => x)
    obtain ⟨rt, h2⟩ := h2
    subst rt
    have rcs := ih (i + 1) (by omega) (by omega) s2 h2
    obtain ⟨hp2, g2, d2, tk2, os2⟩ := s2
    wp_walk
    rw [e3]
    exact ⟨plainId_quiet plain_eq_loop _, codeAny_builtin entry_eq_loop (by
      rw [Around.under_plainId plain_eq_loop _]
      exact rcs)⟩
theorem ne_lists (p q : Addr) (N : Nat) (J : Nat → Shared → Prop) (read : GQ.ListI prog w A (fun e s' => R (.error e) s') p q N J) (stop : ∀ s, J N s → R (.ok (.ret (.bool false))) s) {s : Shared} (h : J 0 s) :
    wpAny (model prog w) A.in1 (Builtin.«list.__ne__» ⟨[.ref p, .ref q], []⟩) (GQ.FinOf prog w A R) (fun e s' => R (.error e) s') s := by
  obtain ⟨xs, ys, n, n2, gx, gy, sx, sy, _⟩ := read _ _ h
  have rcs := ne_turns (A := A) (R := R) p q N J read stop _ 0 rfl (Nat.zero_le _) s h
  obtain ⟨hp, g, d, tk, os⟩ := s
  have f3 := AutoSeq1.sub_list_list
  have ns : ¬ (xs.size != ys.size) = true := by simp [sx, sy]
  wp_walk using wpAny_loadPart' gx, wpAny_loadPart' gy
  exact ⟨plainId_quiet plain_eq_loop _, codeAny_builtin entry_eq_loop (by
    rw [Around.under_plainId plain_eq_loop _]
    exact rcs)⟩
end
section
variable {X : Cx} {n : Nat} {D : L2.Eqv}
theorem ext_to {H H' : Hp} (e : L2.Ext H H') : Ext H H' := by
  intro a h
  cases q : H a with
  | none => exact absurd q h
  | some o => exact e a o q
theorem ext_from {H H' : Hp} (e : Ext H H') : L2.Ext H H' := fun a o h => e.at h
/-- list != list, the items equal by D: no -/
def rNeL (D : L2.Eqv) : R2 := fun x y H Q => L2.DList D x y H ∧ ∀ H', Ext H H' → Q (.bl false) H'
theorem op_neL (hD : L2.Mon D) (he : L2.EqG X n D) (hr : Room (n + 1) X.A) : OpR X (compareOp .NotEq) (rNeL D) := by
  intro pins s σ H x y v u Q I rx ry hq
  obtain ⟨⟨a, b, xs, ys, rfl, rfl, ga, gb, prs⟩, q⟩ := hq
  cases rx
  cases ry
  show wpAny (model X.prog X.w) X.A (richCompare .NotEq (.ref a) (.ref b)) (EP X pins σ Q) X.xe s
  have sb : L2.Sub X (n + 1) X.A := ⟨hr, rfl⟩
  have read : GQ.ListI X.prog X.w X.A X.xe a b xs.length (fun _ s' => L2.LoopI X pins σ H s') := by
    intro i s' l
    obtain ⟨H1, I1, e1⟩ := id l
    obtain ⟨_, its, k, r, g⟩ := I1.hok a _ (e1 _ _ ga)
    obtain ⟨_, its2, k2, r2, g2⟩ := I1.hok b _ (e1 _ _ gb)
    refine ⟨its.toArray, its2.toArray, k, k2, g, g2, ?_, ?_, fun h1 h2 => L2.turnG hD he sb prs r r2 i h1 h2 s' l⟩
    · rw [List.size_toArray, ← r.length]
    · rw [List.size_toArray, ← r2.length, ← prs.1]
  have l0 : L2.LoopI X pins σ H s := ⟨H, I, fun _ _ h => h⟩
  obtain ⟨_, _, _, _, g1, g2, _, _, _⟩ := read 0 s l0
  refine wpAny_richCompare_same_room (op := .NotEq) ⟨_, g1, rfl⟩ ⟨_, g2, rfl⟩ PySem.F.slot_list_ne (GQ.call_here PySem.F.slot_list_ne ⟨_, g1, rfl⟩ PySem.F.entry_list_ne (PySem.F.args_list_ne_2 _ _) ?_) hr.units0
  refine ne_lists (R := wants (fun v s' => v ≠ .notImplemented ∧ EP X pins σ Q v s') X.xe) a b xs.length (fun _ s' => L2.LoopI X pins σ H s') read (fun s' l => ?_) l0
  obtain ⟨H1, I1, e1⟩ := l
  exact ⟨nofun, .bl false, H1, I1, rfl, q H1 (ext_to e1)⟩
end
end Wp

set_option maxHeartbeats 4000000
namespace Wp
open PySem PySem.W L2 PyProof.Rows
/-! ### a caught exception, kept behind the suite -/
/-- at a: an exception of the class cls, its dict at d -/
def ExK (cls : Value) (d : Option Addr) (a : Addr) : HO := .ext fun h => ∃ (oe : Obj) (vs : Array Value), h.get? a = some oe ∧ Zc cls d oe ∧ oe.data = .fields vs
theorem exK_ok {P : Program} {w : World} {H : Hp} {h : Heap} {a : Addr} {cls : Value} {d : Option Addr} {oe : Obj} {vs : Array Value} (e : h.get? a = some oe) (z : Zc cls d oe) (q : oe.data = .fields vs) : ObjOk P w H h a (ExK cls d a) :=
  ⟨⟨oe, vs, e, z, q⟩, ⟨oe, e⟩, fun _ _ ⟨o, v, g, r⟩ k => ⟨o, v, k o g, r⟩⟩
section
variable {X : Cx} {pins : List (Addr × Obj)} {σ : L2.St} {H : Hp} {s : Shared}
/-- an object that came up since the entry is tracked from now on -/
theorem adopt {a : Addr} {o : HO} (I : L2.Inv X pins σ H s) (n0 : X.s_0.heap.get? a = none) (na : H a = none) (nL : a ≠ X.env.locals) (nc : ∀ x c, X.env.cells.lookup x = some c → c ≠ a) (np : ∀ p ∈ X.pn ++ pins, p.1 ≠ a) (new : ObjOk X.prog X.w (upd H a o) s.heap a o) : L2.Inv X pins σ (upd H a o) s := by
  have away : ∀ c, c ≠ a → upd H a o c = H c := fun c h => L2.upd_ne h
  refine ⟨I.ok, I.os, I.bare, ⟨I.base.keep, I.base.slot, fun b u e n x => ?_, I.base.there, fun b xs e => ?_, fun b u v e => ?_, fun b ps e => ?_⟩, I.loc, I.cell, ?_, fun y c e => ?_, fun p hp => ?_, fun b u e => ?_, I.len⟩
  · rw [away b (fun z => by rw [z, n0] at e; cases e)]
    exact I.base.free b u e n x
  · have := I.base.tups b xs e
    rw [away b (L2.ne_of_none this na)]
    exact this
  · have := I.base.frzs b u v e
    rw [away b (L2.ne_of_none this na)]
    exact this
  · obtain ⟨m, z⟩ := I.base.tbls b ps e
    exact ⟨m, by rw [away b (L2.ne_of_none z na)]; exact z⟩
  · rw [away _ (Ne.symm nL)]
    exact I.free
  · rw [away c (nc y c e)]
    exact I.freeC y c e
  · obtain ⟨h1, h2, h3⟩ := I.pin p hp
    exact ⟨h1, by rw [away _ (np p hp)]; exact h2, h3⟩
  · by_cases z : b = a
    · subst z
      rw [L2.upd_same] at e
      cases e
      exact new
    · rw [away b z] at e
      exact (I.hok b u e).stay (fun c v _ q => q) (fun c q => by rw [away c (L2.ne_of_none q na)]; exact q) fun c xs q => by rw [away c (L2.ne_of_none q na)]; exact q
/-- what 'except x as n' wishes, the exception kept: slot i is n's -/
def wKeep (K : Frag) (c : Value) (i : Nat) (ts : TS) (Wo : WX) (D : Ends) : WX := fun cls d σ H =>
  ∃ b, exmOne K cls c = some b ∧ (b = true → ∀ a, H a = none → ts { nx := fun σ' H' => D.nx (σ'.set i none) H', rt := D.rt, bk := fun σ' H' => D.bk (σ'.set i none) H', ct := fun σ' H' => D.ct (σ'.set i none) H' } (σ.set i (some (.ref a))) (upd H a (ExK cls d a))) ∧ (b = false → Wo cls d σ H)
theorem ps_keep {x n : Str} {c : Value} {i : Nat} {body suite : List Stmt} {b₀ : Stmt} {np pos pos' : Pos} {tb : WX → TS} {ts : TS} {Wo : WX} (hs : X.stack = X.env :: X.outer) (hf : X.env.frame = some X.env.locals) (hN : X.N.Nodup) (hi : X.N[i]? = some n) (kn : X.env.kindOf n = some .local) (hc : Names X x c) (hex : X.ex = []) (tk : Takes X Wo)
    (hb : ∀ (W : WX) (pn : List (Addr × Obj)) (xe : Value → Shared → Prop), Takes (X.tr pn xe) W → PassesOwn (model X.prog X.w) X.A X.env xe → PSs (X.tr pn xe) body (tb W))
    (hsu : ∀ (a : Addr) (pn : List (Addr × Obj)), PSs (X.suite a pn) (b₀ :: suite) ts) :
    PS X (.Try body [.ExceptHandler (some (.Name x np)) (some n) (b₀ :: suite) pos'] [] [] pos) (fun D σ H => tb (wKeep X.K c i ts Wo D) D σ H) := by
  refine ⟨fun pins s σ H D I h => ?_⟩
  have okX := I.ok
  have fr : X.A.frames = some (X.env :: X.outer) := by rw [okX.frames, hs]
  have ln : Loc X.env.scope n := .inl kn
  refine wpAny_Try_except ?_
  refine wpAny_mono ((hb (wKeep X.K c i ts Wo D) (X.pn ++ pins) (fun e z1 => wpAny (model X.prog X.w) X.A (noteFrame e X.env) (fun _ z2 => wpAny (model X.prog X.w) X.A (setFlight e none) (fun _ z3 =>
    wpAny (model X.prog X.w) X.A (handleBy e X.env [.ExceptHandler (some (.Name x np)) (some n) (b₀ :: suite) pos']) (SP X pins D) X.xe z3) X.xe z2) X.xe z1) (fun u s' xx => ?_) PassesOwn.looking).run [] s σ H D (I.toTry _) h) (fun f s1 hsp => ?_) (fun e s1 he => he)
  · obtain ⟨a, B, sI, pins', σ', H', cls, d, rfl, J', nb, up, sky, na, os, ag, b, eb, yes, no⟩ := xx
    have J : L2.Inv X pins σ' H' sI := J'.ofTry okX
    have sk : Sky B (X.env :: X.outer) a (Zc cls d) X.env.locals s'.heap := by rw [← hs]; exact sky
    show wpAny (model X.prog X.w) X.A (noteFrame (.ref a) X.env) _ _ _
    refine Sky.land Zc.steady fr hf sk fun h3 fl3 up3 => ?_
    have J3 : L2.Inv X pins σ' H' { s' with heap := h3 } := J.landed nb fl3.1 (up.trans up3) os ag
    obtain ⟨oe, vs, ea, za, da⟩ := fl3.there
    have apart : ∀ {g : Heap} {o : Obj} {v : Array Value}, g.FunFrames B (X.env :: X.outer) → g.get? a = some o → o.data = .fields v → a ∉ frs (X.env :: X.outer) := by
      intro g o v ff e dd m
      obtain ⟨_, o', e', hnf⟩ := ff.mem m
      rw [e] at e'
      cases e'
      exact hnf _ dd
    have nfr := apart fl3.2.2.1 ea da
    have nL : a ≠ X.env.locals := fun z => nfr (List.mem_filterMap.mpr ⟨X.env, List.mem_cons_self, by rw [hf, z]⟩)
    have nF : a ∉ X.fs := by
      intro m
      obtain ⟨e, he, q⟩ := List.mem_filterMap.mp m
      exact nfr (List.mem_filterMap.mpr ⟨e, List.mem_cons_of_mem _ he, q⟩)
    have aI : sI.heap.get? a = none := by
      cases q : sI.heap.get? a with
      | none => rfl
      | some o =>
        have z := nb a o q (by rw [hs]; exact nfr)
        rw [fl3.2.1] at z
        cases z
    have a0 : X.s_0.heap.get? a = none := by
      cases q : X.s_0.heap.get? a with
      | none => rfl
      | some o =>
        obtain ⟨o', z⟩ := J.base.there a o q (by rw [hex]; exact fun m => nomatch m)
        rw [aI] at z
        cases z
    have cA : ∀ y c, X.env.cells.lookup y = some c → c ≠ a := by
      rintro y c e rfl
      obtain ⟨v, z⟩ := J.cell y c e
      obtain ⟨o, g, _⟩ := z
      rw [aI] at g
      cases g
    have pA : ∀ p ∈ X.pn ++ pins, p.1 ≠ a := by
      rintro p hp rfl
      have z := (J.pin p hp).1
      rw [aI] at z
      cases z
    have S3 := J3.suite ea da na nL nF
    refine wpAny_handleBy_cons (codeAny_handlers_test ?_) (by intro q; cases q)
    have LT : PySem.W.Looks (model X.prog X.w) h3 (typeOf (.ref a)) cls := fun A Q E s k q => wpAny_typeOf_ref (k _ _ ea) (by rw [za.1]; exact q)
    have LM := PySem.W.exm_one (M := model X.prog X.w) (J3.kIn) LT eb
    have test : ∀ {Q : Value → Shared → Prop} {E : Value → Shared → Prop}, Q c { s' with heap := h3 } → wpAny (model X.prog X.w) (X.A.mark (some (.ref a))) (eval (.Name x np) X.env) Q E { s' with heap := h3 } := by
      intro Q E q
      obtain ⟨hg, hdbg, hm | ⟨hm, hv, hnn⟩⟩ := hc
      · exact ld_glob (X := X.suite a ((a, oe) :: (X.pn ++ pins))) S3 hg hm q hdbg
      · exact ld_blt (X := X.suite a ((a, oe) :: (X.pn ++ pins))) S3 hg hm hv q hnn hdbg
    refine test (LM.here ?_)
    cases b with
    | true =>
      refine codeAny_handlers_suite_as ?_
      refine HandSPX.lands_againZ fl3 fun h4 fl4 up4 => ?_
      have J4 : L2.Inv X pins σ' H' { s' with heap := h4 } := J.landed nb fl4.1 ((up.trans up3).trans up4) os ag
      obtain ⟨oe4, vs4, e4, z4, d4⟩ := fl4.there
      have T4 : L2.Inv X pins σ' (upd H' a (ExK cls d a)) { s' with heap := h4 } := adopt J4 a0 na nL cA pA (exK_ok e4 z4 d4)
      have S4 : L2.Inv (X.suite a (X.pn ++ pins)) [] σ' (upd H' a (ExK cls d a)) { s' with heap := h4 } := ⟨T4.ok.suite _ _, T4.os, T4.bare, T4.base, T4.loc, T4.cell, T4.free, T4.freeC, fun p hp => T4.pin p (by rw [List.append_nil] at hp; exact hp), T4.hok, T4.len⟩
      refine store_ok (X := X.suite a (X.pn ++ pins)) (v := .ref a) S4 hN hi ln rfl (fun s5 S5 => ?_) (.inr kn)
      refine wpAny_mono ((hsu a (X.pn ++ pins)).run [] s5 _ _ _ S5 (yes rfl a na)) (fun f s6 hsp => ?_) (fun _ _ z => False.elim z)
      have back : ∀ {σ6 : L2.St} {H6 : Hp}, L2.Inv (X.suite a (X.pn ++ pins)) [] σ6 H6 s6 → L2.Inv X pins σ6 H6 s6 := fun S6 => ⟨okX, S6.os, S6.bare, S6.base, S6.loc, S6.cell, S6.free, S6.freeC, fun p hp => S6.pin p (List.mem_append_left _ hp), S6.hok, S6.len⟩
      have end_ : ∀ {σ6 : L2.St} {H6 : Hp} {Q : Shared → Prop}, L2.Inv (X.suite a (X.pn ++ pins)) [] σ6 H6 s6 → (∀ s7, L2.Inv X pins (σ6.set i none) H6 s7 → Q s7) →
          wpAny (model X.prog X.w) X.A (do bindName X.env n .none; unbindBehindTheSuite X.env n pos') (fun _ s7 => Q s7) X.xe s6 := fun S6 hq => gone_ok (back S6) hN hi kn hq
      cases f with
      | next =>
        obtain ⟨σ6, H6, S6, q6⟩ := hsp
        exact end_ S6 fun s7 J7 => ⟨_, _, J7, q6⟩
      | brk =>
        obtain ⟨σ6, H6, S6, q6⟩ := hsp
        exact end_ S6 fun s7 J7 => ⟨_, _, J7, q6⟩
      | cont =>
        obtain ⟨σ6, H6, S6, q6⟩ := hsp
        exact end_ S6 fun s7 J7 => ⟨_, _, J7, q6⟩
      | ret u =>
        obtain ⟨v6, σ6, H6, S6, r6, q6⟩ := hsp
        exact end_ S6 fun s7 J7 => ⟨_, _, _, J7, r6, q6⟩
    | false =>
      show wpAny _ X.A (handleBy (.ref a) X.env []) _ _ _
      refine wpAny_handleBy_nil ?_
      obtain ⟨_, _, _, oe2, v2, T, oT, ts', he, hz, hd, h1, hr⟩ := id fl3
      unfold PySem.passOn
      refine wpAny_bind (wpAny_field he hd h1 ?_)
      rw [if_neg (show ¬ ((Value.ref T == Value.none) = true) from by simp)]
      have fin : wpAny (model X.prog X.w) X.A (setFlight (.ref a) X.env.frame) (fun _ s4 => wpAny (model X.prog X.w) X.A (throw (.ref a) : Sem Flow) (SP X pins D) X.xe s4) X.xe { s' with heap := h3 } := by
        rw [hf]
        refine HandSPX.setFlight_upZ fl3 fun h4 hh4 up4 => wpAny_throw (tk _ _ ?_)
        exact ⟨a, B, sI, pins, σ', H', cls, d, rfl, J, nb, (up.trans up3).trans up4, .inr (.inr (by rw [hs]; exact hh4)), na, os, ag, no rfl⟩
      first
        | exact wpAny_bind (wpAny_pure (wpAny_bind fin))
        | exact wpAny_bind fin
  · cases f with
    | next =>
      obtain ⟨σ', H', J', q⟩ := hsp
      exact wpAny_execs_nil ⟨σ', H', J'.ofTry okX, q⟩
    | brk =>
      obtain ⟨σ', H', J', q⟩ := hsp
      exact ⟨σ', H', J'.ofTry okX, q⟩
    | cont =>
      obtain ⟨σ', H', J', q⟩ := hsp
      exact ⟨σ', H', J'.ofTry okX, q⟩
    | ret u =>
      obtain ⟨v, σ', H', J', r, q⟩ := hsp
      exact ⟨v, σ', H', J'.ofTry okX, r, q⟩
end
end Wp

set_option maxHeartbeats 4000000
namespace Wp
open PySem PySem.W L2 PyProof.Rows
section
variable {X : Cx}
theorem exK_at {P : Program} {w : World} {H : Hp} {h : Heap} {a : Addr} {cls : Value} {d : Option Addr} (x : HOk P w H h) (e : H a = some (ExK cls d a)) : ∃ (oe : Obj) (vs : Array Value), h.get? a = some oe ∧ Zc cls d oe ∧ oe.data = .fields vs := (x a _ e).1
/-- caught.f -/
def tXk (K : Frag) (f : Str) (te : TE) : TE := fun σ H Q => te σ H fun x H1 => ∃ (a C dd : Addr) (fs : List (Str × V)) (v : V), x = .ref a ∧ XfC K C ∧ findIn K (.ref C) f = some none ∧ H1 a = some (ExK (.ref C) (some dd) a) ∧ H1 dd = some (.xd fs) ∧ fs.lookup f = some v ∧ Q v H1
theorem pe_xk {e : Expr} {te : TE} {pos : Pos} {n : Str} (he : PE X e te) (hb : attributeBase e n X.env (eval e X.env) = eval e X.env := by rfl) : PE X (.Attribute e n pos) (tXk X.K n te) := by
  refine ⟨fun pins s σ H Q I h => attr_of hb (thn (he.run pins s σ H _ I h) fun u s1 hh => ?_)⟩
  obtain ⟨x, H1, I1, rx, a, C, dd, fs, v, rfl, T, no, ka, kd, l, q⟩ := hh
  obtain rfl : u = Value.ref a := rx
  obtain ⟨oe, vs, ga, z, dt⟩ := exK_at I1.hok ka
  obtain ⟨mA, ns, rel⟩ := I1.hok dd _ kd
  obtain ⟨od, ho, lk⟩ := lookIn_ns ns
  obtain ⟨u, hu, ru⟩ := RelO.some_of (v := v) (o := mA n) (by rw [← l]; exact rel n)
  have J : InstAt s1.heap a oe C (some od) := ⟨ga, z.1, by unfold notCls; rw [dt] <;> rfl, by rw [z.2]; exact ho⟩
  exact HandSPX.exc_get I1.kIn J T.ga T.gg T.exC (findObj_own T.hdC no rfl (by rw [lk, hu])) (handed_of ru) ⟨v, H1, I1.tok _, ru, q⟩
/-- isinstance(caught, C) -/
def rIsK (K : Frag) : List V → Hp → VK → Prop := fun xs H Q => ∃ (a D : Addr) (dd : Addr) (fs : List (Str × V)) (c : V) (cv : Value) (b : Bool), xs = [.ref a, c] ∧ ExcC K D ∧ H a = some (ExK (.ref D) (some dd) a) ∧ H dd = some (.xd fs) ∧ (∀ u, RelV c u → u = cv) ∧ kitOne K (.ref D) cv = some b ∧ Q (.bl b) H
theorem call_isK : CallR X (.builtin "isinstance") (rIsK X.K) := by
  intro pins s σ H xs us Q I r h
  obtain ⟨a, D, dd, fs, c, cv, b, rfl, C, ka, kd, hcv, e, q⟩ := h
  cases r with
  | cons rx rr =>
    cases rr with
    | cons rt rr =>
      cases rr
      cases rx
      obtain rfl := hcv _ rt
      obtain ⟨oe, vs, ga, z, dt⟩ := exK_at I.hok ka
      obtain ⟨mA, ns, rel⟩ := I.hok dd _ kd
      obtain ⟨od, ho, lk⟩ := lookIn_ns ns
      have J : InstAt s.heap a oe D (some od) := ⟨ga, z.1, by unfold notCls; rw [dt] <;> rfl, by rw [z.2]; exact ho⟩
      have cls : (clsIn X.K D).isSome = true := by
        obtain ⟨cd, hc, _⟩ := any_some C.hd
        rw [hc]; rfl
      exact kia_one (kitx_exc cls C.hg C.hk C.hs C.ha C.hn C.ht C.hm) I.kIn J e (fun z => nomatch z) fun tk => ⟨.bl b, H, I.kept (t' := tk) fun _ _ z => z, rfl, q⟩
end
end Wp

set_option maxHeartbeats 4000000
/-! DL0: plain data D, what a value stands for (Rep), the state of a def's body over plain data (Ag), readings by functions over plain data. -/
namespace Dl
open PySem PySem.W L2 PyProof.Rows
/-- plain data. ins: class, field numbers, fields; exc: the same of an exception that is kept; fn: a def; slc: a list that is only read (the script) -/
inductive D where
  | non | bl (b : Bool) | int (i : Int) | str (s : List Nat)
  | lst (xs : List D) | tup (xs : List D) | dct (ks vs : List D)
  | ins (c : Nat) (ns : List Nat) (ds : List D) | exc (c : Nat) (ns : List Nat) (ds : List D)
  | fn (i : Nat) | slc (xs : List D)
  deriving Inhabited
structure Wd where
  K : Frag
  cl : Nat → Addr
  fl : Nat → Str
  fa : Nat → Addr
  TT : List (Addr × Str)
/-- a class whose instances have these fields -/
def CI (W : Wd) (c : Nat) (ns : List Nat) : Prop := Wp.InsK W.K (W.cl c) ∧ ∀ n ∈ ns, NoAttr W.K (W.cl c) (W.fl n)
/-- .. an exception class -/
def XI (W : Wd) (c : Nat) (ns : List Nat) : Prop := XfC W.K (W.cl c) ∧ ExcC W.K (W.cl c) ∧ ∀ n ∈ ns, NoAttr W.K (W.cl c) (W.fl n)
/-- a text: its codes, not too long -/
def okS (s : List Nat) : Prop := (∀ c ∈ s, c < 1114112) ∧ s.length ≤ sizeLine
abbrev Le (F F' : Hp) : Prop := ∀ a o, F a = some o → F' a = some o
theorem Le.refl (F : Hp) : Le F F := fun _ _ h => h
theorem Le.trans {F G H : Hp} (a : Le F G) (b : Le G H) : Le F H := fun c o h => b c o (a c o h)
section
variable (W : Wd) (F : Hp)
mutual
def Rep (v : V) : D → Prop
  | .non => v = .non
  | .bl b => v = .bl b
  | .int i => v = .int i
  | .str s => ∃ z : Str, v = .str z ∧ z.cps.toList = s ∧ okS s
  | .lst ds => ∃ p vs, v = .ref p ∧ F p = some (.lst vs) ∧ Reps vs ds
  | .tup ds => ∃ p vs, v = .ref p ∧ F p = some (.tup vs) ∧ Reps vs ds
  | .dct ks ds => ∃ p kvs, v = .ref p ∧ F p = some (.dK kvs) ∧ Reps (kvs.map fun q => kV q.1) ks ∧ Reps (kvs.map (·.2)) ds
  | .ins c ns ds => ∃ p dx fvs, v = .ref p ∧ F p = some (.ins (W.cl c) dx fvs) ∧ CI W c ns ∧ fvs.map (·.1) = ns.map W.fl ∧ Reps (fvs.map (·.2)) ds
  | .exc c ns ds => ∃ p dd fvs, v = .ref p ∧ F p = some (Wp.ExK (.ref (W.cl c)) (some dd) p) ∧ F dd = some (.xd fvs) ∧ XI W c ns ∧ fvs.map (·.1) = ns.map W.fl ∧ Reps (fvs.map (·.2)) ds
  | .fn i => v = .ref (W.fa i)
  | .slc ds => ∃ p vs, v = .ref p ∧ SqL W.K F p vs ∧ Reps vs ds
def Reps (vs : List V) : List D → Prop
  | [] => vs = []
  | d :: ds => ∃ v r, vs = v :: r ∧ Rep v d ∧ Reps r ds
end
end
section
variable {W : Wd} {F F' : Hp}
mutual
theorem Rep.le (h : Le F F') {v : V} : ∀ {d : D}, Rep W F v d → Rep W F' v d
  | .non, r => r
  | .bl _, r => r
  | .int _, r => r
  | .str _, r => r
  | .lst ds, r => by
    obtain ⟨p, vs, e, q, r⟩ := r
    exact ⟨p, vs, e, h _ _ q, Reps.le h r⟩
  | .tup ds, r => by
    obtain ⟨p, vs, e, q, r⟩ := r
    exact ⟨p, vs, e, h _ _ q, Reps.le h r⟩
  | .dct ks ds, r => by
    obtain ⟨p, vs, e, q, r, r'⟩ := r
    exact ⟨p, vs, e, h _ _ q, Reps.le h r, Reps.le h r'⟩
  | .ins c ns ds, r => by
    obtain ⟨p, dx, fvs, e, q, ci, n, r⟩ := r
    exact ⟨p, dx, fvs, e, h _ _ q, ci, n, Reps.le h r⟩
  | .exc c ns ds, r => by
    obtain ⟨p, dx, fvs, e, q, q', xi, n, r⟩ := r
    exact ⟨p, dx, fvs, e, h _ _ q, h _ _ q', xi, n, Reps.le h r⟩
  | .fn _, r => r
  | .slc ds, r => by
    obtain ⟨p, vs, e, q, r⟩ := r
    refine ⟨p, vs, e, ?_, Reps.le h r⟩
    rcases q with (q | ⟨o, q⟩) | q
    · exact .inl (.inl (h _ _ q))
    · exact .inl (.inr ⟨o, h _ _ q⟩)
    · exact .inr q
theorem Reps.le (h : Le F F') {vs : List V} : ∀ {ds : List D}, Reps W F vs ds → Reps W F' vs ds
  | [], r => r
  | d :: ds, r => by
    obtain ⟨v, t, e, r1, r2⟩ := r
    exact ⟨v, t, e, Rep.le h r1, Reps.le h r2⟩
end
theorem Reps.nil : Reps W F [] [] := rfl
theorem Reps.cons {v : V} {vs : List V} {d : D} {ds : List D} (a : Rep W F v d) (b : Reps W F vs ds) : Reps W F (v :: vs) (d :: ds) := ⟨v, vs, rfl, a, b⟩
theorem Reps.length : ∀ {ds : List D} {vs : List V}, Reps W F vs ds → vs.length = ds.length
  | [], vs, r => by rw [show vs = [] from r]; rfl
  | d :: ds, vs, r => by
    obtain ⟨v, t, rfl, _, r2⟩ := r
    simp [Reps.length r2]
theorem Reps.append : ∀ {ds : List D} {vs ws : List V} {es : List D}, Reps W F vs ds → Reps W F ws es → Reps W F (vs ++ ws) (ds ++ es)
  | [], vs, ws, es, r, q => by rw [show vs = [] from r]; exact q
  | d :: ds, vs, ws, es, r, q => by
    obtain ⟨v, t, rfl, r1, r2⟩ := r
    exact ⟨v, t ++ ws, rfl, r1, Reps.append r2 q⟩
theorem Reps.get : ∀ {ds : List D} {vs : List V} {i : Nat} {v : V}, Reps W F vs ds → vs[i]? = some v → ∃ d, ds[i]? = some d ∧ Rep W F v d
  | [], vs, i, v, r, e => by rw [show vs = [] from r] at e; simp at e
  | d :: ds, vs, i, v, r, e => by
    obtain ⟨x, t, rfl, r1, r2⟩ := r
    cases i with
    | zero => simp at e; subst e; exact ⟨d, rfl, r1⟩
    | succ i => simp at e; obtain ⟨d', e', r'⟩ := Reps.get r2 e; exact ⟨d', by simpa using e', r'⟩
theorem Reps.get' {ds : List D} {vs : List V} {i : Nat} {d : D} (r : Reps W F vs ds) (e : ds[i]? = some d) : ∃ v, vs[i]? = some v ∧ Rep W F v d := by
  have l := r.length
  have hi : i < ds.length := by
    rcases Nat.lt_or_ge i ds.length with h | h
    · exact h
    · rw [List.getElem?_eq_none_iff.mpr h] at e; cases e
  have hv : vs[i]? = some (vs[i]'(by omega)) := List.getElem?_eq_getElem _
  obtain ⟨d', e', r'⟩ := r.get hv
  rw [e] at e'; cases e'
  exact ⟨_, hv, r'⟩
theorem Reps.set {v : V} {d : D} : ∀ {ds : List D} {vs : List V} {i : Nat}, Reps W F vs ds → Rep W F v d → Reps W F (vs.set i v) (ds.set i d)
  | [], vs, i, r, q => by rw [show vs = [] from r]; exact rfl
  | e :: ds, vs, i, r, q => by
    obtain ⟨x, t, rfl, r1, r2⟩ := r
    cases i with
    | zero => exact ⟨v, t, rfl, q, r2⟩
    | succ i => exact ⟨x, _, rfl, r1, Reps.set r2 q⟩
theorem Reps.take : ∀ {ds : List D} {vs : List V} (n : Nat), Reps W F vs ds → Reps W F (vs.take n) (ds.take n)
  | [], vs, n, r => by rw [show vs = [] from r]; simp [Reps]
  | d :: ds, vs, n, r => by
    obtain ⟨x, t, rfl, r1, r2⟩ := r
    cases n with
    | zero => simp [Reps]
    | succ n => exact ⟨x, _, rfl, r1, Reps.take n r2⟩
theorem Reps.drop : ∀ {ds : List D} {vs : List V} (n : Nat), Reps W F vs ds → Reps W F (vs.drop n) (ds.drop n)
  | [], vs, n, r => by rw [show vs = [] from r]; simp [Reps]
  | d :: ds, vs, n, r => by
    obtain ⟨x, t, rfl, r1, r2⟩ := r
    cases n with
    | zero => exact ⟨x, t, rfl, r1, r2⟩
    | succ n => exact Reps.drop n r2
end
/-! ### steps -/
def NotT (o : HO) : Prop := ∀ ps, o ≠ .tbl ps
/-- the tables of lambdas' code stand, none of them is frozen -/
structure Tb (W : Wd) (F H : Hp) : Prop where
  tb : LamX.Tabs W.TT H
  nt : ∀ a ps, F a ≠ some (.tbl ps)
/-- from (F, H) to (F', H'): what is frozen stays, what is tracked stays but at A, what is frozen anew is new -/
structure PStep (W : Wd) (A : List Addr) (F H F' H' : Hp) : Prop where
  le : Le F F'
  sub : Le F' H'
  old : ∀ a o, H a = some o → a ∉ A → NotT o → H' a = some o
  new : ∀ a, H a ≠ none → F' a = F a
  trk : ∀ a, H a ≠ none → H' a ≠ none
  tabs : Tb W F' H'
section
variable {W : Wd} {A A' : List Addr} {F H F' H' F1 H1 F2 H2 : Hp}
theorem PStep.refl (s : Le F H) (t : Tb W F H) : PStep W A F H F H := ⟨Le.refl _, s, fun _ _ h _ _ => h, fun _ _ => rfl, fun _ h => h, t⟩
theorem PStep.trans (a : PStep W A F H F1 H1) (b : PStep W A' F1 H1 F2 H2) (hA : ∀ x ∈ A', x ∈ A ∨ H x = none) : PStep W A F H F2 H2 where
  le := a.le.trans b.le
  sub := b.sub
  old := fun x o h n t => b.old x o (a.old x o h n t) (fun z => (hA x z).elim n fun q => by rw [h] at q; cases q) t
  new := fun x h => (b.new x (a.trk x h)).trans (a.new x h)
  trk := fun x h => b.trk x (a.trk x h)
  tabs := b.tabs
theorem PStep.trans0 (a : PStep W A F H F1 H1) (b : PStep W [] F1 H1 F2 H2) : PStep W A F H F2 H2 := a.trans b (by simp)
/-- a new object, frozen -/
theorem PStep.fz {p : Addr} {o : HO} (s : Le F H) (t : Tb W F H) (n : H p = none) (ho : NotT o := by intro _ z; cases z) : PStep W [] F H (upd F p o) (upd H p o) where
  le := fun a x h => by
    have : a ≠ p := fun e => by rw [e] at h; rw [s _ _ h] at n; cases n
    rw [upd_ne this]; exact h
  sub := fun a x h => by
    by_cases e : a = p
    · subst e; rw [upd_same] at h ⊢; exact h
    · rw [upd_ne e] at h ⊢; exact s _ _ h
  old := fun a x h _ _ => by
    have : a ≠ p := fun e => by rw [e, n] at h; cases h
    rw [upd_ne this]; exact h
  new := fun a h => upd_ne fun e => h (by rw [e]; exact n)
  trk := fun a h => by rw [upd_ne fun e => h (by rw [e]; exact n)]; exact h
  tabs := ⟨t.tb.ext fun b x h => by
    have : b ≠ p := fun e => by rw [e, n] at h; cases h
    rw [upd_ne this]; exact h, fun a ps h => by
      by_cases e : a = p
      · subst e; rw [upd_same] at h; cases h; exact ho _ rfl
      · rw [upd_ne e] at h; exact t.nt _ _ h⟩
/-- a new object, not frozen -/
theorem PStep.al {p : Addr} {o : HO} (s : Le F H) (t : Tb W F H) (n : H p = none) : PStep W [] F H F (upd H p o) where
  le := Le.refl _
  sub := fun a x h => by
    have : a ≠ p := fun e => by rw [e] at h; rw [s _ _ h] at n; cases n
    rw [upd_ne this]; exact s _ _ h
  old := fun a x h _ _ => by
    have : a ≠ p := fun e => by rw [e, n] at h; cases h
    rw [upd_ne this]; exact h
  new := fun _ _ => rfl
  trk := fun a h => by rw [upd_ne fun e => h (by rw [e]; exact n)]; exact h
  tabs := ⟨t.tb.ext fun b x h => by
    have : b ≠ p := fun e => by rw [e, n] at h; cases h
    rw [upd_ne this]; exact h, t.nt⟩
theorem PStep.free {p : Addr} (a : PStep W A F H F1 H1) (n : H1 p = none) : H p = none := by
  cases h : H p with
  | none => rfl
  | some o => exact absurd n (a.trk p (by rw [h]; simp))
end
/-! ### slots -/
inductive Sl where
  | no | pu (d : D) | ow (d : D) | pa (k : Nat) (d : D) | fu
abbrev Ev := List Sl
/-- where a def's body began: F, H at its entry, the addresses of what it may change -/
structure Bs where
  F : Hp
  H : Hp
  A : List Addr
  T : Addr
/-- what stands at a, not frozen -/
def Own (W : Wd) (F H : Hp) (a : Addr) : D → Prop
  | .lst ds => ∃ vs, H a = some (.lst vs) ∧ Reps W F vs ds
  | .dct ks ds => ∃ kvs, H a = some (.dK kvs) ∧ Reps W F (kvs.map fun q => kV q.1) ks ∧ Reps W F (kvs.map (·.2)) ds
  | .ins c ns ds => ∃ dx fvs, H a = some (.ins (W.cl c) dx fvs) ∧ CI W c ns ∧ fvs.map (·.1) = ns.map W.fl ∧ Reps W F (fvs.map (·.2)) ds
  | _ => False
theorem Own.le {W : Wd} {F F' H H' : Hp} {a : Addr} {d : D} (r : Own W F H a d) (l : Le F F') (h : ∀ o, H a = some o → NotT o → H' a = some o) : Own W F' H' a d := by
  cases d with
  | lst ds =>
    obtain ⟨vs, q, r⟩ := r
    exact ⟨vs, h _ q (fun _ z => nomatch z), r.le l⟩
  | dct ks ds =>
    obtain ⟨vs, q, r, r'⟩ := r
    exact ⟨vs, h _ q (fun _ z => nomatch z), r.le l, r'.le l⟩
  | ins c ns ds =>
    obtain ⟨dx, vs, q, ci, n, r⟩ := r
    exact ⟨dx, vs, h _ q (fun _ z => nomatch z), ci, n, r.le l⟩
  | _ => exact r.elim
theorem Own.trk {W : Wd} {F H : Hp} {a : Addr} {d : D} (r : Own W F H a d) : ∃ o, H a = some o ∧ NotT o := by
  cases d with
  | lst ds => obtain ⟨vs, q, r⟩ := r; exact ⟨_, q, fun _ z => nomatch z⟩
  | dct ks ds => obtain ⟨vs, q, r⟩ := r; exact ⟨_, q, fun _ z => nomatch z⟩
  | ins c ns ds => obtain ⟨dx, vs, q, r⟩ := r; exact ⟨_, q, fun _ z => nomatch z⟩
  | _ => exact r.elim
def SlOk (W : Wd) (B : Bs) (F H : Hp) (v : Option V) : Sl → Prop
  | .no => True
  | .pu d => ∃ x, v = some x ∧ Rep W F x d
  | .ow d => ∃ a, v = some (.ref a) ∧ B.H a = none ∧ F a = none ∧ Own W F H a d
  | .pa k d => ∃ a, v = some (.ref a) ∧ B.A[k]? = some a ∧ F a = none ∧ Own W F H a d
  | .fu => v = some (.ref B.T)
def isOwn : Option Sl → Prop
  | some (.ow _) => True
  | some (.pa _ _) => True
  | _ => False
structure Ag (W : Wd) (B : Bs) (F H : Hp) (σ : L2.St) (env : Ev) : Prop where
  len : σ.length = env.length
  sl : ∀ (i : Nat) v s, σ[i]? = some v → env[i]? = some s → SlOk W B F H v s
  inj : ∀ i j : Nat, i ≠ j → isOwn env[i]? → isOwn env[j]? → σ[i]? ≠ σ[j]?
  bs : PStep W B.A B.F B.H F H
  fa : ∀ a ∈ B.A, B.F a = none
section
variable {W : Wd} {B : Bs} {F H F' H' : Hp} {σ : L2.St} {env env' : Ev}
theorem Ag.sub (g : Ag W B F H σ env) : Le F H := g.bs.sub
theorem Ag.tabs (g : Ag W B F H σ env) : Tb W F H := g.bs.tabs
theorem SlOk.step {v : Option V} {s : Sl} (r : SlOk W B F H v s) (p : PStep W [] F H F' H') : SlOk W B F' H' v s := by
  cases s with
  | no => trivial
  | pu d => obtain ⟨x, e, r⟩ := r; exact ⟨x, e, r.le p.le⟩
  | ow d =>
    obtain ⟨a, e, n, f, r⟩ := r
    obtain ⟨o, ho, _⟩ := r.trk
    exact ⟨a, e, n, (p.new a (by rw [ho]; simp)).trans f, r.le p.le fun o q t => p.old a o q (by simp) t⟩
  | fu => exact r
  | pa k d =>
    obtain ⟨a, e, n, f, r⟩ := r
    obtain ⟨o, ho, _⟩ := r.trk
    exact ⟨a, e, n, (p.new a (by rw [ho]; simp)).trans f, r.le p.le fun o q t => p.old a o q (by simp) t⟩
/-- a step that changes nothing that was -/
theorem Ag.step (g : Ag W B F H σ env) (p : PStep W [] F H F' H') : Ag W B F' H' σ env := ⟨g.len, fun i v s e1 e2 => (g.sl i v s e1 e2).step p, g.inj, g.bs.trans0 p, g.fa⟩
theorem Ag.here (g : Ag W B F H σ env) : PStep W [] F H F H := PStep.refl g.sub g.tabs
theorem Ag.pure {i : Nat} {d : D} (g : Ag W B F H σ env) (e : env[i]? = some (.pu d)) : ∃ x, σ[i]? = some (some x) ∧ Rep W F x d := by
  have hi : i < env.length := by
    rcases Nat.lt_or_ge i env.length with h | h
    · exact h
    · rw [List.getElem?_eq_none_iff.mpr h] at e; cases e
  have hs : σ[i]? = some (σ[i]'(by rw [g.len]; exact hi)) := List.getElem?_eq_getElem _
  obtain ⟨x, ex, r⟩ := g.sl i _ _ hs e
  exact ⟨x, by rw [hs, ex], r⟩
end
def Nw (σ : L2.St) (env : Ev) (a : Addr) : Prop := ∀ i : Nat, isOwn env[i]? → σ[i]? ≠ some (some (.ref a))
/-- a piece of an expression: what is frozen stays; what is tracked and no slot's own stays, and is not frozen meanwhile; no slot comes to own something -/
structure Stp (σ : L2.St) (F H : Hp) (env : Ev) (F' H' : Hp) (env' : Ev) : Prop where
  le : Le F F'
  fr : ∀ a o, H a = some o → Nw σ env a → NotT o → H' a = some o
  nf : ∀ a, H a ≠ none → Nw σ env a → F' a = F a
  tk : ∀ a, H a ≠ none → H' a ≠ none
  ow : ∀ i : Nat, isOwn env'[i]? → isOwn env[i]?
theorem Stp.refl {σ : L2.St} {F H : Hp} {env : Ev} : Stp σ F H env F H env := ⟨Le.refl _, fun _ _ h _ _ => h, fun _ _ _ => rfl, fun _ h => h, fun _ h => h⟩
theorem Stp.trans {σ : L2.St} {F H F1 H1 F2 H2 : Hp} {env env1 env2 : Ev} (p : Stp σ F H env F1 H1 env1) (q : Stp σ F1 H1 env1 F2 H2 env2) : Stp σ F H env F2 H2 env2 where
  le := p.le.trans q.le
  fr := fun a o h n t => q.fr a o (p.fr a o h n t) (fun i h' => n i (p.ow i h')) t
  nf := fun a h n => (q.nf a (p.tk a h) fun i h' => n i (p.ow i h')).trans (p.nf a h n)
  tk := fun a h => q.tk a (p.tk a h)
  ow := fun i h => p.ow i (q.ow i h)
theorem PStep.stp {W : Wd} {σ : L2.St} {F H F' H' : Hp} {env : Ev} (p : PStep W [] F H F' H') : Stp σ F H env F' H' env := ⟨p.le, fun a o h _ t => p.old a o h (by simp) t, fun a h _ => p.new a h, p.trk, fun _ h => h⟩
/-! ### results -/
structure Xc where
  c : Nat
  ns : List Nat
  ds : List D
/-- what comes of a piece of code: a thing, an exception of the program's own; bad: nothing is said -/
inductive R (α : Type) where
  | ok (a : α) | exc (x : Xc) | bad
namespace R
variable {α β : Type}
def bind : R α → (α → R β) → R β
  | .ok a, k => k a
  | .exc x, _ => .exc x
  | .bad, _ => .bad
def map (f : α → β) : R α → R β
  | .ok a => .ok (f a)
  | .exc x => .exc x
  | .bad => .bad
def ofO : Option α → R α
  | some a => .ok a
  | none => .bad
end R
abbrev RE (α : Type) := R (α × Ev)
abbrev M (α : Type) := Ev → RE α
def XRep (W : Wd) (F : Hp) (dd : Addr) (x : Xc) : Prop := ∃ fvs, F dd = some (.xd fvs) ∧ XI W x.c x.ns ∧ fvs.map (·.1) = x.ns.map W.fl ∧ Reps W F (fvs.map (·.2)) x.ds
/-- what an exception that leaves is wanted for, told from where the body began -/
def Xk (W : Wd) (A : List Addr) (F H : Hp) (E : XK) (x : Xc) : Prop := ∀ F' H' dd, PStep W A F H F' H' → XRep W F' dd x → E (.ref (W.cl x.c)) (some dd) H'
/-- what comes of values, nothing that was changed -/
def Out (W : Wd) (B : Bs) (E : XK) (F H : Hp) (r : R D) (Q : VK) : Prop := match r with
  | .ok d => ∀ F' H' v, PStep W [] F H F' H' → Rep W F' v d → Q v H'
  | .exc x => Xk W B.A B.F B.H E x
  | .bad => False
end Dl

set_option maxHeartbeats 4000000
/-! DL1: rules of expressions, tests, statements with readings by functions over plain data. -/
namespace Dl
open PySem PySem.W L2 PyProof.Rows
theorem PE.imp {X : Cx} {e : Expr} {t t' : TE} (h : PE X e t) (m : ∀ σ H Q, t' σ H Q → t σ H Q) : PE X e t' := ⟨fun pins s σ H Q I q => h.run pins s σ H Q I (m _ _ _ q)⟩
theorem PT.imp {X : Cx} {e : Expr} {t t' : TT} (h : PT X e t) (m : ∀ σ H Q, t' σ H Q → t σ H Q) : PT X e t' := ⟨fun pins s σ H Q I q => h.run pins s σ H Q I (m _ _ _ q)⟩
theorem PW.imp {X : Cx} {e : Expr} {t t' : TT} (h : PW X e t) (m : ∀ σ H Q, t' σ H Q → t σ H Q) : PW X e t' := ⟨fun whole pins s σ H Q I q => h.run whole pins s σ H Q I (m _ _ _ q)⟩
theorem PA.imp {X : Cx} {e : List Expr} {t t' : TA} (h : PA X e t) (m : ∀ σ H Q, t' σ H Q → t σ H Q) : PA X e t' := ⟨fun pos pins s σ H Q I q => h.run pos pins s σ H Q I (m _ _ _ q)⟩
theorem PS.imp {X : Cx} {e : Stmt} {t t' : TS} (h : PS X e t) (m : ∀ D σ H, t' D σ H → t D σ H) : PS X e t' := ⟨fun pins s σ H D I q => h.run pins s σ H D I (m _ _ _ q)⟩
theorem PSs.imp {X : Cx} {e : List Stmt} {t t' : TS} (h : PSs X e t) (m : ∀ D σ H, t' D σ H → t D σ H) : PSs X e t' := ⟨fun pins s σ H D I q => h.run pins s σ H D I (m _ _ _ q)⟩
/-! ### functions over plain data -/
namespace M
variable {α β : Type}
def ret (a : α) : M α := fun env => .ok (a, env)
def bind (m : M α) (k : α → M β) : M β := fun env => (m env).bind fun p => k p.1 p.2
def lift (r : R α) : M α := fun env => r.map fun a => (a, env)
end M
def mVar (i : Nat) : M D := fun env => match env[i]? with
  | some (.pu d) => .ok (d, env)
  | _ => .bad
/-- the name's list, dict, instance is frozen from now on -/
def mFrz (i : Nat) : M D := fun env => match env[i]? with
  | some (.ow d) => .ok (d, env.set i (.pu d))
  | _ => .bad
/-- what is wanted behind a piece of code -/
def Want (W : Wd) (B : Bs) (E : XK) (F H : Hp) (env : Ev) (σ : L2.St) (Q : VK) : RE D → Prop
  | .ok (d, env') => ∀ F' H' v, Stp σ F H env F' H' env' → Ag W B F' H' σ env' → Rep W F' v d → Q v H'
  | .exc x => Xk W B.A B.F B.H E x
  | .bad => False
def tD (W : Wd) (B : Bs) (E : XK) (m : M D) : TE := fun σ H Q => ∃ F env, Ag W B F H σ env ∧ Want W B E F H env σ Q (m env)
theorem Want.st {W : Wd} {B : Bs} {E : XK} {F H F1 H1 : Hp} {env env1 : Ev} {σ : L2.St} {Q : VK} {r : RE D} (h : Want W B E F H env σ Q r) (l : Stp σ F H env F1 H1 env1) : Want W B E F1 H1 env1 σ Q r := by
  cases r with
  | ok p => obtain ⟨d, e⟩ := p; exact fun F' H' v l' g r => h F' H' v (l.trans l') g r
  | exc x => exact h
  | bad => exact h
/-- one piece, then the rest -/
theorem want_bind {W : Wd} {B : Bs} {E : XK} {m : M D} {k : D → M D} {σ : L2.St} {H F : Hp} {env : Ev} {Q R : VK} (g : Ag W B F H σ env) (h : Want W B E F H env σ R (M.bind m k env))
    (q : ∀ d env1 F1 H1 v, Stp σ F H env F1 H1 env1 → Ag W B F1 H1 σ env1 → Rep W F1 v d → Want W B E F1 H1 env1 σ R (k d env1) → Q v H1) : tD W B E m σ H Q := by
  refine ⟨F, env, g, ?_⟩
  unfold M.bind at h
  cases e : m env with
  | ok p =>
    obtain ⟨d, env1⟩ := p
    rw [e] at h
    exact fun F1 H1 v l g1 r => q d env1 F1 H1 v l g1 r (Want.st h l)
  | exc x => rw [e] at h; exact h
  | bad => rw [e] at h; exact h
/-- the end of pieces by values -/
theorem want_lift {W : Wd} {B : Bs} {E : XK} {r : R D} {σ : L2.St} {H F : Hp} {env : Ev} {Q : VK} (g : Ag W B F H σ env) (h : Want W B E F H env σ Q (M.lift r env)) : Out W B E F H r Q := by
  cases r with
  | ok d => exact fun F' H' v p rp => h F' H' v p.stp (g.step p) rp
  | exc x => exact h
  | bad => exact h
/-! ### by values -/
def rV1 (W : Wd) (B : Bs) (E : XK) (g : D → R D) : V → Hp → VK → Prop := fun x H Q => ∃ F d, PStep W B.A B.F B.H F H ∧ Rep W F x d ∧ Out W B E F H (g d) Q
def rV2 (W : Wd) (B : Bs) (E : XK) (g : D → D → R D) : R2 := fun x y H Q => ∃ F d e, PStep W B.A B.F B.H F H ∧ Rep W F x d ∧ Rep W F y e ∧ Out W B E F H (g d e) Q
def rVs (W : Wd) (B : Bs) (E : XK) (g : List D → R D) : List V → Hp → VK → Prop := fun vs H Q => ∃ F ds, PStep W B.A B.F B.H F H ∧ Reps W F vs ds ∧ Out W B E F H (g ds) Q
def m1 (g : D → R D) (f : M D) : M D := M.bind f fun a => M.lift (g a)
def m2 (g : D → D → R D) (f1 f2 : M D) : M D := M.bind f1 fun a => M.bind f2 fun b => M.lift (g a b)
section
variable {X : Cx} {W : Wd} {B : Bs} {E : XK} {a b c : Expr} {f1 f2 f3 : M D} {pos : Pos}
theorem t1_of {g : D → R D} {σ : L2.St} {H : Hp} {Q : VK} (h : tD W B E (m1 g f1) σ H Q) : tUn (rV1 W B E g) (tD W B E f1) σ H Q := by
  obtain ⟨F, env, ag, h⟩ := h
  exact want_bind ag h fun d env1 F1 H1 v l g1 r w => ⟨F1, d, g1.bs, r, want_lift g1 w⟩
theorem t2_of {g : D → D → R D} {σ : L2.St} {H : Hp} {Q : VK} (h : tD W B E (m2 g f1 f2) σ H Q) : tOp (rV2 W B E g) (tD W B E f1) (tD W B E f2) σ H Q := by
  obtain ⟨F, env, ag, h⟩ := h
  exact want_bind ag h fun d env1 F1 H1 v l g1 r w => want_bind g1 w fun d2 env2 F2 H2 v2 l2 g2 r2 w2 => ⟨F2, d, d2, g2.bs, r.le l2.le, r2, want_lift g2 w2⟩
theorem pd_op {op : Operator} {g : D → D → R D} (ho : OpR X (binaryOp op) (rV2 W B E g)) (ha : PE X a (tD W B E f1)) (hb : PE X b (tD W B E f2)) : PE X (.BinOp a op b pos) (tD W B E (m2 g f1 f2)) := PE.imp (pe_op ho ha hb) fun _ _ _ h => t2_of h
theorem pd_un {op : UnaryOp} {g : D → R D} (ho : UnR X (unaryOp op) (rV1 W B E g)) (ha : PE X a (tD W B E f1)) : PE X (.UnaryOp op a pos) (tD W B E (m1 g f1)) := PE.imp (pe_un ho ha) fun _ _ _ h => t1_of h
theorem pd_cmp {op : CmpOp} {g : D → D → R D} (ho : OpR X (compareOp op) (rV2 W B E g)) (ha : PE X a (tD W B E f1)) (hb : PE X b (tD W B E f2)) (hm : behindInMarks op b = false) : PE X (.Compare a [op] [b] pos) (tD W B E (m2 g f1 f2)) := PE.imp (pe_cmpR ho ha hb hm) fun _ _ _ h => t2_of h
/-! ### names, constants -/
theorem pd_var {i : Nat} {x : Str} (hN : X.N[i]? = some x) (hv : Vis X.env.scope x) (hd : (x == ("__debug__" : Str)) = false) (hcd : (x == ("__classdict__" : Str)) = false) : PE X (.Name x pos) (tD W B E (mVar i)) := PE.imp (pe_var hN hv hd hcd) fun σ H Q h => by
  obtain ⟨F, env, g, h⟩ := h
  unfold mVar at h
  split at h
  · rename_i d e
    obtain ⟨v, ev, r⟩ := g.pure e
    exact ⟨v, ev, h F H v Stp.refl g r⟩
  · exact h.elim
theorem pd_const {v : V} {d : D} {e : Expr} (h : PE X e (tC v)) (r : ∀ F, Rep W F v d) : PE X e (tD W B E (M.ret d)) := PE.imp h fun σ H Q h => by
  obtain ⟨F, env, g, h⟩ := h
  exact h F H v Stp.refl g (r F)
end
end Dl

set_option maxHeartbeats 4000000
/-! DL2: owned things, argument lists, displays, tests, statements. -/
namespace Dl
open PySem PySem.W L2 PyProof.Rows
theorem get_lt {α : Type} {l : List α} {i : Nat} {x : α} (e : l[i]? = some x) : i < l.length := by
  rcases Nat.lt_or_ge i l.length with h | h
  · exact h
  · rw [List.getElem?_eq_none_iff.mpr h] at e; cases e
section
variable {W : Wd} {B : Bs} {E : XK} {F H F' H' : Hp} {σ : L2.St} {env env' : Ev}
/-- an owned thing frozen -/
theorem Own.frz {a : Addr} {d : D} (r : Own W F H a d) (s : Le F H) (n : F a = none) : ∃ o, H a = some o ∧ Le F (upd F a o) ∧ Rep W (upd F a o) (.ref a) d := by
  have le : ∀ o, Le F (upd F a o) := fun o b x h => by
    have : b ≠ a := fun z => by rw [z, n] at h; cases h
    rw [upd_ne this]; exact h
  cases d with
  | lst ds =>
    obtain ⟨vs, q, r⟩ := r
    exact ⟨_, q, le _, a, vs, rfl, upd_same, r.le (le _)⟩
  | dct ks ds =>
    obtain ⟨vs, q, r, r'⟩ := r
    exact ⟨_, q, le _, a, vs, rfl, upd_same, r.le (le _), r'.le (le _)⟩
  | ins c ns ds =>
    obtain ⟨dx, vs, q, ci, nm, r⟩ := r
    exact ⟨_, q, le _, a, dx, vs, rfl, upd_same, ci, nm, r.le (le _)⟩
  | _ => exact r.elim
theorem Own.nt {a : Addr} {d : D} {o : HO} (r : Own W F H a d) (h : H a = some o) : NotT o := by
  obtain ⟨o', h1, h2⟩ := r.trk
  rw [h] at h1; cases h1; exact h2
/-- F grows at a, which is new since the entry -/
theorem PStep.grow {A : List Addr} {F0 H0 : Hp} {a : Addr} {o : HO} (p : PStep W A F0 H0 F H) (n0 : H0 a = none) (n : F a = none) (h : H a = some o) (ht : NotT o) : PStep W A F0 H0 (upd F a o) H where
  le := fun b x q => by
    have : b ≠ a := fun z => by have := p.le b x q; rw [z, n] at this; cases this
    rw [upd_ne this]; exact p.le b x q
  sub := fun b x q => by
    by_cases z : b = a
    · subst z; rw [upd_same] at q; cases q; exact h
    · rw [upd_ne z] at q; exact p.sub b x q
  old := p.old
  new := fun b q => by
    have : b ≠ a := fun z => q (by rw [z]; exact n0)
    rw [upd_ne this]; exact p.new b q
  trk := p.trk
  tabs := ⟨p.tabs.tb, fun b ps q => by
    by_cases z : b = a
    · subst z; rw [upd_same] at q; cases q; exact ht _ rfl
    · rw [upd_ne z] at q; exact p.tabs.nt _ _ q⟩
theorem SlOk.grow {a : Addr} {o : HO} {v : Option V} {s : Sl} (r : SlOk W B F H v s) (n : F a = none) (hv : (match s with | .ow _ => True | .pa _ _ => True | _ => False) → v ≠ some (.ref a)) : SlOk W B (upd F a o) H v s := by
  have le : Le F (upd F a o) := fun b x h => by
    have : b ≠ a := fun z => by rw [z, n] at h; cases h
    rw [upd_ne this]; exact h
  cases s with
  | no => trivial
  | pu d => obtain ⟨x, e, r⟩ := r; exact ⟨x, e, r.le le⟩
  | ow d =>
    obtain ⟨b, e, n0, f, r⟩ := r
    have : b ≠ a := fun z => hv trivial (by rw [e, z])
    exact ⟨b, e, n0, by rw [upd_ne this]; exact f, r.le le fun _ q _ => q⟩
  | fu => exact r
  | pa k d =>
    obtain ⟨b, e, n0, f, r⟩ := r
    have : b ≠ a := fun z => hv trivial (by rw [e, z])
    exact ⟨b, e, n0, by rw [upd_ne this]; exact f, r.le le fun _ q _ => q⟩
/-- a new owned thing that no slot holds is frozen -/
theorem Ag.grow {a : Addr} {o : HO} (g : Ag W B F H σ env) (n0 : B.H a = none) (n : F a = none) (h : H a = some o) (ht : NotT o) (w : Nw σ env a) : Ag W B (upd F a o) H σ env where
  len := g.len
  sl := fun i v s e1 e2 => (g.sl i v s e1 e2).grow n fun q z => by
    refine w i ?_ (by rw [e1, z])
    rw [e2]
    cases s <;> first | trivial | exact q
  inj := g.inj
  bs := g.bs.grow n0 n h ht
  fa := g.fa
/-- a slot set to plain data -/
theorem Ag.setP {i : Nat} {v : V} {d : D} (g : Ag W B F H σ env) (r : Rep W F v d) : Ag W B F H (σ.set i (some v)) (env.set i (.pu d)) where
  len := by simp [g.len]
  sl := fun j u s e1 e2 => by
    by_cases z : j = i
    · subst z
      have hj : j < σ.length := by have := get_lt e1; simpa using this
      rw [List.getElem?_set_self hj] at e1
      rw [List.getElem?_set_self (by rw [← g.len]; exact hj)] at e2
      cases e1; cases e2
      exact ⟨v, rfl, r⟩
    · rw [List.getElem?_set_ne (Ne.symm z)] at e1 e2
      exact g.sl j u s e1 e2
  inj := fun j k n h1 h2 => by
    have hh : ∀ j, isOwn (env.set i (.pu d))[j]? → j ≠ i ∧ isOwn env[j]? := fun j h => by
      by_cases z : j = i
      · subst z
        exfalso
        by_cases hj : j < env.length
        · rw [List.getElem?_set_self hj] at h; exact h
        · rw [List.getElem?_eq_none_iff.mpr (by simp; omega)] at h; exact h
      · rw [List.getElem?_set_ne (Ne.symm z)] at h; exact ⟨z, h⟩
    obtain ⟨z1, h1⟩ := hh j h1
    obtain ⟨z2, h2⟩ := hh k h2
    rw [List.getElem?_set_ne (Ne.symm z1), List.getElem?_set_ne (Ne.symm z2)]
    exact g.inj j k n h1 h2
  bs := g.bs
  fa := g.fa
/-- a slot set to a new owned thing -/
theorem Ag.setO {i : Nat} {a : Addr} {d : D} (g : Ag W B F H σ env) (n0 : B.H a = none) (n : F a = none) (r : Own W F H a d) (w : Nw σ env a) : Ag W B F H (σ.set i (some (.ref a))) (env.set i (.ow d)) where
  len := by simp [g.len]
  sl := fun j u s e1 e2 => by
    by_cases z : j = i
    · subst z
      have hj : j < σ.length := by have := get_lt e1; simpa using this
      rw [List.getElem?_set_self hj] at e1
      rw [List.getElem?_set_self (by rw [← g.len]; exact hj)] at e2
      cases e1; cases e2
      exact ⟨a, rfl, n0, n, r⟩
    · rw [List.getElem?_set_ne (Ne.symm z)] at e1 e2
      exact g.sl j u s e1 e2
  inj := fun j k nn h1 h2 => by
    by_cases z1 : j = i
    · subst z1
      have z2 : k ≠ j := fun z => nn z.symm
      rw [List.getElem?_set_ne (Ne.symm z2)] at h2
      rw [List.getElem?_set_ne (Ne.symm z2)]
      by_cases hj : j < σ.length
      · rw [List.getElem?_set_self hj]
        exact fun q => w k h2 q.symm
      · rw [List.getElem?_eq_none_iff.mpr (by simp; rw [← g.len]; omega)] at h1; exact h1.elim
    · rw [List.getElem?_set_ne (Ne.symm z1)] at h1 ⊢
      by_cases z2 : k = i
      · subst z2
        by_cases hj : k < σ.length
        · rw [List.getElem?_set_self hj]
          exact fun q => w j h1 q
        · rw [List.getElem?_eq_none_iff.mpr (by simp; rw [← g.len]; omega)] at h2; exact h2.elim
      · rw [List.getElem?_set_ne (Ne.symm z2)] at h2 ⊢
        exact g.inj j k nn h1 h2
  bs := g.bs
  fa := g.fa
/-- a slot's own thing frozen -/
theorem Ag.frz {i : Nat} {d : D} (g : Ag W B F H σ env) (e : env[i]? = some (.ow d)) : ∃ a F', σ[i]? = some (some (.ref a)) ∧ Stp σ F H env F' H (env.set i (.pu d)) ∧ Ag W B F' H σ (env.set i (.pu d)) ∧ Rep W F' (.ref a) d := by
  have hi := get_lt e
  have hs : σ[i]? = some (σ[i]'(by rw [g.len]; exact hi)) := List.getElem?_eq_getElem _
  obtain ⟨a, ea, n0, n, r⟩ := g.sl i _ _ hs e
  rw [ea] at hs
  obtain ⟨o, ho, l, rp⟩ := r.frz g.sub n
  refine ⟨a, upd F a o, hs, ⟨l, fun _ _ h _ _ => h, fun b _ nw => ?_, fun _ h => h, fun j h => ?_⟩, ⟨by simp [g.len], fun j v s e1 e2 => ?_, fun j k nn h1 h2 => ?_, g.bs.grow n0 n ho (r.nt ho), g.fa⟩, rp⟩
  · have : b ≠ a := fun z => nw i (by rw [e]; trivial) (by rw [hs, z])
    rw [upd_ne this]
  · by_cases z : j = i
    · subst z; rw [e]; trivial
    · rw [List.getElem?_set_ne (Ne.symm z)] at h; exact h
  · by_cases z : j = i
    · subst z
      rw [List.getElem?_set_self hi] at e2
      cases e2
      rw [hs] at e1; cases e1
      exact ⟨_, rfl, rp⟩
    · rw [List.getElem?_set_ne (Ne.symm z)] at e2
      refine (g.sl j v s e1 e2).grow n fun q z' => ?_
      refine g.inj j i z ?_ ?_ (by rw [e1, z', hs])
      · rw [e2]; cases s <;> first | trivial | exact q
      · rw [e]; trivial
  · have hh : ∀ j, isOwn (env.set i (.pu d))[j]? → j ≠ i ∧ isOwn env[j]? := fun j h => by
      by_cases z : j = i
      · subst z
        rw [List.getElem?_set_self hi] at h; exact h.elim
      · rw [List.getElem?_set_ne (Ne.symm z)] at h; exact ⟨z, h⟩
    obtain ⟨_, h1⟩ := hh j h1
    obtain ⟨_, h2⟩ := hh k h2
    exact g.inj j k nn h1 h2
theorem Ag.nw {a : Addr} (g : Ag W B F H σ env) (n : H a = none) : Nw σ env a := fun i h q => by
  cases e : env[i]? with
  | none => rw [e] at h; exact h
  | some s =>
    rw [e] at h
    have := g.sl i _ s q e
    cases s with
    | no => exact h
    | pu d => exact h
    | ow d =>
      obtain ⟨b, eb, _, _, r⟩ := this
      cases eb
      obtain ⟨o, ho, _⟩ := r.trk
      rw [n] at ho; cases ho
    | fu => exact h
    | pa k d =>
      obtain ⟨b, eb, _, _, r⟩ := this
      cases eb
      obtain ⟨o, ho, _⟩ := r.trk
      rw [n] at ho; cases ho
theorem Ag.free0 {a : Addr} (g : Ag W B F H σ env) (n : H a = none) : B.H a = none := g.bs.free n
end
/-! ### owned results -/
def WantO (W : Wd) (B : Bs) (E : XK) (F H : Hp) (env : Ev) (σ : L2.St) (Q : VK) : RE D → Prop
  | .ok (d, env') => ∀ F' H' a, Stp σ F H env F' H' env' → Ag W B F' H' σ env' → Nw σ env' a → H a = none → F' a = none → Own W F' H' a d → Q (.ref a) H'
  | .exc x => Xk W B.A B.F B.H E x
  | .bad => False
def tO (W : Wd) (B : Bs) (E : XK) (m : M D) : TE := fun σ H Q => ∃ F env, Ag W B F H σ env ∧ WantO W B E F H env σ Q (m env)
theorem WantO.st {W : Wd} {B : Bs} {E : XK} {F H F1 H1 : Hp} {env env1 : Ev} {σ : L2.St} {Q : VK} {r : RE D} (h : WantO W B E F H env σ Q r) (l : Stp σ F H env F1 H1 env1) : WantO W B E F1 H1 env1 σ Q r := by
  cases r with
  | ok p =>
    obtain ⟨d, e⟩ := p
    refine fun F' H' a l' g w n r => h F' H' a (l.trans l') g w ?_ r
    cases q : H a with
    | none => rfl
    | some o => exact absurd n (l.tk a (by rw [q]; simp))
  | exc x => exact h
  | bad => exact h
theorem grow_stp {σ : L2.St} {F H F' H' : Hp} {env env' : Ev} {a : Addr} {o : HO} (l : Stp σ F H env F' H' env') (n : H a = none) (n' : F' a = none) : Stp σ F H env (upd F' a o) H' env' where
  le := fun b x h => by
    have q := l.le b x h
    have : b ≠ a := fun z => by rw [z, n'] at q; cases q
    rw [upd_ne this]; exact q
  fr := l.fr
  nf := fun b h w => by
    have : b ≠ a := fun z => h (by rw [z]; exact n)
    rw [upd_ne this]; exact l.nf b h w
  tk := l.tk
  ow := l.ow
section
variable {X : Cx} {W : Wd} {B : Bs} {E : XK} {a b c : Expr} {es : List Expr} {f f1 f2 f3 : M D} {pos : Pos}
/-- an owned result, frozen -/
theorem pd_ofO {e : Expr} (h : PE X e (tO W B E f)) : PE X e (tD W B E f) := PE.imp h fun σ H Q h => by
  obtain ⟨F, env, g, h⟩ := h
  refine ⟨F, env, g, ?_⟩
  cases e : f env with
  | ok p =>
    obtain ⟨d, env'⟩ := p
    rw [e] at h
    intro F' H' a l g' w n0 n r
    obtain ⟨o, ho, l', rp⟩ := r.frz g'.sub n
    exact h (upd F' a o) H' _ (grow_stp l n0 n) (g'.grow (g.bs.free n0) n ho (r.nt ho) w) rp
  | exc x => rw [e] at h; exact h
  | bad => rw [e] at h; exact h
theorem pd_frz {i : Nat} {x : Str} (hN : X.N[i]? = some x) (hv : Vis X.env.scope x) (hd : (x == ("__debug__" : Str)) = false) (hcd : (x == ("__classdict__" : Str)) = false) : PE X (.Name x pos) (tD W B E (mFrz i)) := PE.imp (pe_var hN hv hd hcd) fun σ H Q h => by
  obtain ⟨F, env, g, h⟩ := h
  unfold mFrz at h
  split at h
  · rename_i d e
    obtain ⟨a, F', ea, l, g', r⟩ := g.frz e
    exact ⟨_, ea, h F' H _ l g' r⟩
  · exact h.elim
/-! ### argument lists -/
def WantA (W : Wd) (B : Bs) (E : XK) (F H : Hp) (env : Ev) (σ : L2.St) (Q : List V → Hp → Prop) : RE (List D) → Prop
  | .ok (ds, env') => ∀ F' H' vs, Stp σ F H env F' H' env' → Ag W B F' H' σ env' → Reps W F' vs ds → Q vs H'
  | .exc x => Xk W B.A B.F B.H E x
  | .bad => False
def tA (W : Wd) (B : Bs) (E : XK) (m : M (List D)) : TA := fun σ H Q => ∃ F env, Ag W B F H σ env ∧ WantA W B E F H env σ Q (m env)
theorem WantA.st {F H F1 H1 : Hp} {env env1 : Ev} {σ : L2.St} {Q : List V → Hp → Prop} {r : RE (List D)} (h : WantA W B E F H env σ Q r) (l : Stp σ F H env F1 H1 env1) : WantA W B E F1 H1 env1 σ Q r := by
  cases r with
  | ok p => obtain ⟨d, e⟩ := p; exact fun F' H' v l' g r => h F' H' v (l.trans l') g r
  | exc x => exact h
  | bad => exact h
def mSeq : List (M D) → M (List D)
  | [] => M.ret []
  | m :: ms => M.bind m fun d => M.bind (mSeq ms) fun ds => M.ret (d :: ds)
/-- an argument list, then what becomes of it -/
theorem wantA_bind {α : Type} {m : M (List D)} {k : List D → M α} {σ : L2.St} {H F : Hp} {env : Ev} {Q : List V → Hp → Prop} {G : Hp → Hp → Ev → RE α → Prop} (g : Ag W B F H σ env) (h : G F H env (M.bind m k env)) (le : ∀ F H env F' H' env' r, Stp σ F H env F' H' env' → G F H env r → G F' H' env' r) (hx : ∀ F H env x, G F H env (.exc x) → Xk W B.A B.F B.H E x) (hb : ∀ F H env, ¬ G F H env .bad)
    (q : ∀ ds env1 F1 H1 vs, Stp σ F H env F1 H1 env1 → Ag W B F1 H1 σ env1 → Reps W F1 vs ds → G F1 H1 env1 (k ds env1) → Q vs H1) : tA W B E m σ H Q := by
  refine ⟨F, env, g, ?_⟩
  unfold M.bind at h
  cases e : m env with
  | ok p =>
    obtain ⟨d, env1⟩ := p
    rw [e] at h
    exact fun F1 H1 v l g1 r => q d env1 F1 H1 v l g1 r (le _ _ _ _ _ _ _ l h)
  | exc x => rw [e] at h; exact hx _ _ _ _ h
  | bad => rw [e] at h; exact hb _ _ _ h
theorem wantE_bind {α : Type} {m : M D} {k : D → M α} {σ : L2.St} {H F : Hp} {env : Ev} {Q : VK} {G : Hp → Hp → Ev → RE α → Prop} (g : Ag W B F H σ env) (h : G F H env (M.bind m k env)) (le : ∀ F H env F' H' env' r, Stp σ F H env F' H' env' → G F H env r → G F' H' env' r) (hx : ∀ F H env x, G F H env (.exc x) → Xk W B.A B.F B.H E x) (hb : ∀ F H env, ¬ G F H env .bad)
    (q : ∀ d env1 F1 H1 v, Stp σ F H env F1 H1 env1 → Ag W B F1 H1 σ env1 → Rep W F1 v d → G F1 H1 env1 (k d env1) → Q v H1) : tD W B E m σ H Q := by
  refine ⟨F, env, g, ?_⟩
  unfold M.bind at h
  cases e : m env with
  | ok p =>
    obtain ⟨d, env1⟩ := p
    rw [e] at h
    exact fun F1 H1 v l g1 r => q d env1 F1 H1 v l g1 r (le _ _ _ _ _ _ _ l h)
  | exc x => rw [e] at h; exact hx _ _ _ _ h
  | bad => rw [e] at h; exact hb _ _ _ h
theorem pda_nil : PA X [] (tA W B E (mSeq [])) := PA.imp pa_nil fun σ H Q h => by
  obtain ⟨F, env, g, h⟩ := h
  exact h F H [] Stp.refl g rfl
theorem pda_cons {ms : List (M D)} (ha : PE X a (tD W B E f)) (hr : PA X es (tA W B E (mSeq ms))) (hs : starEach (a :: es) X.env = (false, eval a X.env) :: starEach es X.env) : PA X (a :: es) (tA W B E (mSeq (f :: ms))) := PA.imp (pa_cons ha hr hs) fun σ H Q h => by
  obtain ⟨F, env, g, h⟩ := h
  refine wantE_bind (G := fun F H env r => WantA W B E F H env σ Q r) g h (fun _ _ _ _ _ _ _ l w => WantA.st w l) (fun _ _ _ _ w => w) (fun _ _ _ w => w) fun d env1 F1 H1 v l g1 r w => ?_
  refine wantA_bind (G := fun F H env r => WantA W B E F H env σ Q r) g1 w (fun _ _ _ _ _ _ _ l w => WantA.st w l) (fun _ _ _ _ w => w) (fun _ _ _ w => w) fun ds env2 F2 H2 vs l2 g2 r2 w2 => ?_
  exact w2 F2 H2 (v :: vs) Stp.refl g2 (Reps.cons (r.le l2.le) r2)
/-! ### displays -/
def szR (n : Nat) : R Unit := if n ≤ sizeLine then .ok () else .bad
def mLst (m : M (List D)) : M D := M.bind m fun ds => M.lift (if ds.length ≤ sizeLine then .ok (.lst ds) else .bad)
def mTup (m : M (List D)) : M D := M.bind m fun ds => M.lift (if ds.length ≤ sizeLine then .ok (.tup ds) else .bad)
theorem po_lst {m : M (List D)} (h : PA X es (tA W B E m)) : PE X (.List es pos) (tO W B E (mLst m)) := PE.imp (pe_lst h) fun σ H Q h => by
  obtain ⟨F, env, g, h⟩ := h
  refine wantA_bind (G := fun F H env r => WantO W B E F H env σ Q r) g h (fun _ _ _ _ _ _ _ l w => WantO.st w l) (fun _ _ _ _ w => w) (fun _ _ _ w => w) fun ds env1 F1 H1 vs l g1 r w => ?_
  have rl := r.length
  unfold M.lift R.map at w
  split at w
  · rename_i e
    split at e
    · rename_i hz
      cases e
      refine ⟨by rw [rl]; exact hz, fun p np => ?_⟩
      have st := PStep.al (o := .lst vs) g1.sub g1.tabs np
      refine w F1 _ p st.stp (g1.step st) (g1.nw np) np ?_ ⟨vs, upd_same, r⟩
      cases q : F1 p with
      | none => rfl
      | some o => rw [g1.sub _ _ q] at np; cases np
    · cases e
  · rename_i e
    split at e <;> cases e
  · exact w.elim
theorem pd_tup {m : M (List D)} {k : Nat} (h : PA X es (tA W B E m)) : PE X (.Tuple es k pos) (tD W B E (mTup m)) := PE.imp (pe_tup h) fun σ H Q h => by
  obtain ⟨F, env, g, h⟩ := h
  refine wantA_bind (G := fun F H env r => Want W B E F H env σ Q r) g h (fun _ _ _ _ _ _ _ l w => Want.st w l) (fun _ _ _ _ w => w) (fun _ _ _ w => w) fun ds env1 F1 H1 vs l g1 r w => ?_
  have rl := r.length
  unfold M.lift R.map at w
  split at w
  · rename_i e
    split at e
    · rename_i hz
      cases e
      refine ⟨by rw [rl]; exact hz, fun p np => ?_⟩
      have st := PStep.fz (o := .tup vs) g1.sub g1.tabs np
      exact w _ _ _ st.stp (g1.step st) ⟨p, vs, rfl, upd_same, r.le st.le⟩
    · cases e
  · rename_i e
    split at e <;> cases e
  · exact w.elim
end
end Dl

set_option maxHeartbeats 4000000
/-! DL3: tests, statements. -/
namespace Dl
open PySem PySem.W L2 PyProof.Rows
section
variable {X : Cx} {W : Wd} {B : Bs} {E : XK} {a b c : Expr} {es rest : List Expr} {f f1 f2 f3 : M D} {pos : Pos}
/-! ### tests -/
def WantT (W : Wd) (B : Bs) (E : XK) (F H : Hp) (env : Ev) (σ : L2.St) (Q : Bool → Hp → Prop) : RE Bool → Prop
  | .ok (b, env') => ∀ F' H', Stp σ F H env F' H' env' → Ag W B F' H' σ env' → Q b H'
  | .exc x => Xk W B.A B.F B.H E x
  | .bad => False
def tT (W : Wd) (B : Bs) (E : XK) (m : M Bool) : TT := fun σ H Q => ∃ F env, Ag W B F H σ env ∧ WantT W B E F H env σ Q (m env)
theorem WantT.st {F H F1 H1 : Hp} {env env1 : Ev} {σ : L2.St} {Q : Bool → Hp → Prop} {r : RE Bool} (h : WantT W B E F H env σ Q r) (l : Stp σ F H env F1 H1 env1) : WantT W B E F1 H1 env1 σ Q r := by
  cases r with
  | ok p => obtain ⟨d, e⟩ := p; exact fun F' H' l' g => h F' H' (l.trans l') g
  | exc x => exact h
  | bad => exact h
theorem wantT_bind {α : Type} {m : M Bool} {k : Bool → M α} {σ : L2.St} {H F : Hp} {env : Ev} {Q : Bool → Hp → Prop} {G : Hp → Hp → Ev → RE α → Prop} (g : Ag W B F H σ env) (h : G F H env (M.bind m k env)) (le : ∀ F H env F' H' env' r, Stp σ F H env F' H' env' → G F H env r → G F' H' env' r) (hx : ∀ F H env x, G F H env (.exc x) → Xk W B.A B.F B.H E x) (hb : ∀ F H env, ¬ G F H env .bad)
    (q : ∀ b env1 F1 H1, Stp σ F H env F1 H1 env1 → Ag W B F1 H1 σ env1 → G F1 H1 env1 (k b env1) → Q b H1) : tT W B E m σ H Q := by
  refine ⟨F, env, g, ?_⟩
  unfold M.bind at h
  cases e : m env with
  | ok p =>
    obtain ⟨d, env1⟩ := p
    rw [e] at h
    exact fun F1 H1 l g1 => q d env1 F1 H1 l g1 (le _ _ _ _ _ _ _ l h)
  | exc x => rw [e] at h; exact hx _ _ _ _ h
  | bad => rw [e] at h; exact hb _ _ _ h
/-- the truth of plain data -/
def truD : D → R Bool
  | .non => .ok false
  | .bl b => .ok b
  | .int i => .ok (i != 0)
  | .str s => .ok (!s.isEmpty)
  | .lst xs => .ok (!xs.isEmpty)
  | .tup xs => .ok (!xs.isEmpty)
  | .dct ks _ => .ok (!ks.isEmpty)
  | _ => .bad
theorem isE {vs : List V} {ds : List D} {F : Hp} (r : Reps W F vs ds) : (!vs.isEmpty) = !ds.isEmpty := by
  have := r.length
  cases vs <;> cases ds <;> simp_all
theorem tru_of {K : Frag} {F H : Hp} {v : V} {d : D} {k : Bool} (s : Le F H) (r : Rep W F v d) (e : truD d = .ok k) : TruV K v H k := by
  cases d with
  | non => cases r; cases e; rfl
  | bl b => cases r; cases e; rfl
  | int i => cases r; cases e; rfl
  | str z =>
    obtain ⟨y, rfl, rfl, _, hz⟩ := r
    cases e
    have hl : y.cps.toList.length = y.length := by simp [Str.length]
    refine ⟨by rw [← hl]; exact hz, ?_⟩
    rw [← hl]
    cases y.cps.toList with
    | nil => rfl
    | cons x t =>
      have h : ((List.length (x :: t) : Nat) : Int) ≠ 0 := by simp only [List.length_cons]; omega
      simp only [List.isEmpty_cons, Bool.not_false, bne_iff_ne.mpr h]
  | lst xs =>
    obtain ⟨p, vs, rfl, h, r⟩ := r
    cases e
    exact .inl ⟨vs, SqL.of (s _ _ h), (isE r).symm⟩
  | tup xs =>
    obtain ⟨p, vs, rfl, h, r⟩ := r
    cases e
    exact .inr (.inl ⟨vs, SqT.of (s _ _ h), (isE r).symm⟩)
  | dct ks xs =>
    obtain ⟨p, vs, rfl, h, r, _⟩ := r
    cases e
    refine .inr (.inr ⟨vs, s _ _ h, ?_⟩)
    have := isE r
    cases vs <;> cases ks <;> simp_all
  | _ => cases e
def mTru (m : M D) : M Bool := M.bind m fun d => M.lift (truD d)
theorem pdt_tru (ha : PE X a (tD W B E f)) (he : ∀ whole, isTrue a X.env whole = (do let v ← whole; standAt a.pos; holding [v] (truthy v))) : PT X a (tT W B E (mTru f)) := PT.imp (pt_truth ha he) fun σ H Q h => by
  obtain ⟨F, env, g, h⟩ := h
  refine wantE_bind (G := fun F H env r => WantT W B E F H env σ Q r) g h (fun _ _ _ _ _ _ _ l w => WantT.st w l) (fun _ _ _ _ w => w) (fun _ _ _ w => w) fun d env1 F1 H1 v l g1 r w => ?_
  unfold M.lift at w
  cases e : truD d with
  | ok k => rw [e] at w; exact ⟨k, tru_of g1.sub r e, w F1 H1 Stp.refl g1⟩
  | exc x => cases d <;> cases e
  | bad => rw [e] at w; exact w.elim
/-- a comparison as a test: it gives a truth value -/
def asB : D → R Bool
  | .bl b => .ok b
  | _ => .bad
def mB (m : M D) : M Bool := M.bind m fun d => M.lift (asB d)
theorem tTest_of {σ : L2.St} {H : Hp} {Q : Bool → Hp → Prop} (h : tT W B E (mB f) σ H Q) : tTest (tD W B E f) σ H Q := by
  obtain ⟨F, env, g, h⟩ := h
  refine wantE_bind (G := fun F H env r => WantT W B E F H env σ Q r) g h (fun _ _ _ _ _ _ _ l w => WantT.st w l) (fun _ _ _ _ w => w) (fun _ _ _ w => w) fun d env1 F1 H1 v l g1 r w => ?_
  unfold M.lift asB at w
  cases d with
  | bl b => obtain rfl : v = .bl b := r; exact ⟨b, rfl, w F1 H1 Stp.refl g1⟩
  | _ => exact w.elim
theorem pdt_cmp {op : CmpOp} {g : D → D → R D} (ho : OpR X (compareOp op) (rV2 W B E g)) (ha : PE X a (tD W B E f1)) (hb : PE X b (tD W B E f2)) (hm : behindInMarks op b = false) : PT X (.Compare a [op] [b] pos) (tT W B E (mB (m2 g f1 f2))) := PT.imp (pt_cmpR ho ha hb hm) fun σ H Q h => by
  have h1 := tTest_of h
  unfold tTest at h1 ⊢
  exact t2_of h1
def mNotT (m : M Bool) : M Bool := M.bind m fun b => M.ret (!b)
theorem pdt_not {m : M Bool} (ha : PT X a (tT W B E m)) : PT X (.UnaryOp .Not a pos) (tT W B E (mNotT m)) := PT.imp (pt_not ha) fun σ H Q h => by
  obtain ⟨F, env, g, h⟩ := h
  exact wantT_bind (G := fun F H env r => WantT W B E F H env σ Q r) g h (fun _ _ _ _ _ _ _ l w => WantT.st w l) (fun _ _ _ _ w => w) (fun _ _ _ w => w) fun b env1 F1 H1 l g1 w => w F1 H1 Stp.refl g1
def mAndT (m n : M Bool) : M Bool := M.bind m fun b => if b then n else M.ret false
def mOrT (m n : M Bool) : M Bool := M.bind m fun b => if b then M.ret true else n
theorem pdw_and1 {m : M Bool} (ha : PT X a (tT W B E m)) : PW X (.BoolOp .And [a] pos) (tT W B E m) := pw_and1 ha
theorem pdw_or1 {m : M Bool} (ha : PT X a (tT W B E m)) : PW X (.BoolOp .Or [a] pos) (tT W B E m) := pw_or1 ha
theorem pdw_and {m n : M Bool} (ha : PT X a (tT W B E m)) (hb : PW X (.BoolOp .And (b :: rest) pos) (tT W B E n)) : PW X (.BoolOp .And (a :: b :: rest) pos) (tT W B E (mAndT m n)) := PW.imp (pw_and ha hb) fun σ H Q h => by
  obtain ⟨F, env, g, h⟩ := h
  refine wantT_bind (G := fun F H env r => WantT W B E F H env σ Q r) g h (fun _ _ _ _ _ _ _ l w => WantT.st w l) (fun _ _ _ _ w => w) (fun _ _ _ w => w) fun b env1 F1 H1 l g1 w => ?_
  cases b with
  | true => rw [if_pos rfl] at w ⊢; exact ⟨F1, env1, g1, w⟩
  | false => rw [if_neg (by decide)] at w ⊢; exact w F1 H1 Stp.refl g1
theorem pdw_or {m n : M Bool} (ha : PT X a (tT W B E m)) (hb : PW X (.BoolOp .Or (b :: rest) pos) (tT W B E n)) : PW X (.BoolOp .Or (a :: b :: rest) pos) (tT W B E (mOrT m n)) := PW.imp (pw_or ha hb) fun σ H Q h => by
  obtain ⟨F, env, g, h⟩ := h
  refine wantT_bind (G := fun F H env r => WantT W B E F H env σ Q r) g h (fun _ _ _ _ _ _ _ l w => WantT.st w l) (fun _ _ _ _ w => w) (fun _ _ _ w => w) fun b env1 F1 H1 l g1 w => ?_
  cases b with
  | true => rw [if_pos rfl] at w ⊢; exact w F1 H1 Stp.refl g1
  | false => rw [if_neg (by decide)] at w ⊢; exact ⟨F1, env1, g1, w⟩
/-! ### and, or, not, if as values -/
def mAndV (m n : M D) : M D := M.bind m fun d => fun env => match truD d with
  | .ok true => n env
  | .ok false => .ok (d, env)
  | _ => .bad
def mOrV (m n : M D) : M D := M.bind m fun d => fun env => match truD d with
  | .ok true => .ok (d, env)
  | .ok false => n env
  | _ => .bad
def mNotV (m : M D) : M D := M.bind m fun d => M.lift ((truD d).map fun b => .bl (!b))
def mIf (t : M Bool) (m n : M D) : M D := M.bind t fun b => if b then m else n
theorem pd_one {op : BoolOp} (h : PE X a (tD W B E f)) : PE X (.BoolOp op [a] pos) (tD W B E f) := pe_one h
theorem pd_and (ha : PE X a (tD W B E f1)) (hb : PE X (.BoolOp .And (b :: rest) pos) (tD W B E f2)) : PE X (.BoolOp .And (a :: b :: rest) pos) (tD W B E (mAndV f1 f2)) := PE.imp (pe_andT ha hb) fun σ H Q h => by
  obtain ⟨F, env, g, h⟩ := h
  refine want_bind g h fun d env1 F1 H1 v l g1 r w => ?_
  have w : Want W B E F1 H1 env1 σ Q (match truD d with
    | .ok true => f2 env1
    | .ok false => .ok (d, env1)
    | _ => .bad) := w
  cases e : truD d with
  | ok k =>
    rw [e] at w
    refine ⟨k, tru_of g1.sub r e, ?_⟩
    cases k with
    | true => rw [if_pos rfl]; exact ⟨F1, env1, g1, w⟩
    | false => rw [if_neg (by decide)]; exact w F1 H1 v Stp.refl g1 r
  | exc x => rw [e] at w; exact w.elim
  | bad => rw [e] at w; exact w.elim
theorem pd_or (ha : PE X a (tD W B E f1)) (hb : PE X (.BoolOp .Or (b :: rest) pos) (tD W B E f2)) : PE X (.BoolOp .Or (a :: b :: rest) pos) (tD W B E (mOrV f1 f2)) := PE.imp (pe_orT ha hb) fun σ H Q h => by
  obtain ⟨F, env, g, h⟩ := h
  refine want_bind g h fun d env1 F1 H1 v l g1 r w => ?_
  have w : Want W B E F1 H1 env1 σ Q (match truD d with
    | .ok true => .ok (d, env1)
    | .ok false => f2 env1
    | _ => .bad) := w
  cases e : truD d with
  | ok k =>
    rw [e] at w
    refine ⟨k, tru_of g1.sub r e, ?_⟩
    cases k with
    | true => rw [if_pos rfl]; exact w F1 H1 v Stp.refl g1 r
    | false => rw [if_neg (by decide)]; exact ⟨F1, env1, g1, w⟩
  | exc x => rw [e] at w; exact w.elim
  | bad => rw [e] at w; exact w.elim
theorem pd_not (ha : PE X a (tD W B E f)) : PE X (.UnaryOp .Not a pos) (tD W B E (mNotV f)) := PE.imp (pe_notT ha) fun σ H Q h => by
  obtain ⟨F, env, g, h⟩ := h
  refine want_bind g h fun d env1 F1 H1 v l g1 r w => ?_
  unfold M.lift at w
  cases e : truD d with
  | ok k => rw [e] at w; exact ⟨k, tru_of g1.sub r e, w F1 H1 (.bl (!k)) Stp.refl g1 rfl⟩
  | exc x => cases d <;> cases e
  | bad => rw [e] at w; exact w.elim
theorem pd_ifE {t : M Bool} (hc : PT X c (tT W B E t)) (ha : PE X a (tD W B E f1)) (hb : PE X b (tD W B E f2)) : PE X (.IfExp c a b pos) (tD W B E (mIf t f1 f2)) := PE.imp (pe_ifExp hc ha hb) fun σ H Q h => by
  obtain ⟨F, env, g, h⟩ := h
  refine wantT_bind (G := fun F H env r => Want W B E F H env σ Q r) g h (fun _ _ _ _ _ _ _ l w => Want.st w l) (fun _ _ _ _ w => w) (fun _ _ _ w => w) fun b env1 F1 H1 l g1 w => ?_
  cases b with
  | true => rw [if_pos rfl] at w ⊢; exact ⟨F1, env1, g1, w⟩
  | false => rw [if_neg (by decide)] at w ⊢; exact ⟨F1, env1, g1, w⟩
end
/-! ### statements -/
inductive Fl where
  | nx | rt (d : D) | bk | ct
abbrev MS := Ev → R (Fl × Ev)
/-- what a def hands back: plain data, or (o) something of its own -/
def RetOk (W : Wd) (B : Bs) (o : Bool) (F H : Hp) (v : V) (d : D) : Prop := match o with
  | false => Rep W F v d
  | true => ∃ a, v = .ref a ∧ B.H a = none ∧ F a = none ∧ Own W F H a d
def WantS (W : Wd) (B : Bs) (E : XK) (o : Bool) (F : Hp) (Z : Ends) : R (Fl × Ev) → Prop
  | .ok (.nx, env') => ∀ F' H' σ', Le F F' → Ag W B F' H' σ' env' → Z.nx σ' H'
  | .ok (.rt d, env') => ∀ F' H' σ' v, Le F F' → Ag W B F' H' σ' env' → RetOk W B o F' H' v d → Z.rt v H'
  | .ok (.bk, env') => ∀ F' H' σ', Le F F' → Ag W B F' H' σ' env' → Z.bk σ' H'
  | .ok (.ct, env') => ∀ F' H' σ', Le F F' → Ag W B F' H' σ' env' → Z.ct σ' H'
  | .exc x => Xk W B.A B.F B.H E x
  | .bad => False
def tS (W : Wd) (B : Bs) (E : XK) (o : Bool) (m : MS) : TS := fun Z σ H => ∃ F env, Ag W B F H σ env ∧ WantS W B E o F Z (m env)
theorem WantS.le {W : Wd} {B : Bs} {E : XK} {o : Bool} {F F1 : Hp} {Z : Ends} {r : R (Fl × Ev)} (h : WantS W B E o F Z r) (l : Le F F1) : WantS W B E o F1 Z r := by
  cases r with
  | ok q =>
    obtain ⟨fl, env⟩ := q
    cases fl with
    | nx => exact fun F' H' σ' l' g => h F' H' σ' (l.trans l') g
    | rt d => exact fun F' H' σ' v l' g r => h F' H' σ' v (l.trans l') g r
    | bk => exact fun F' H' σ' l' g => h F' H' σ' (l.trans l') g
    | ct => exact fun F' H' σ' l' g => h F' H' σ' (l.trans l') g
  | exc x => exact h
  | bad => exact h
/-- pieces in a row -/
def sSeq (m n : MS) : MS := fun env => (m env).bind fun p => match p.1 with
  | .nx => n p.2
  | _ => .ok p
section
variable {X : Cx} {W : Wd} {B : Bs} {E : XK} {o : Bool} {a b c e : Expr} {es : List Expr} {st : Stmt} {sts s1 s2 : List Stmt} {f f1 f2 : M D} {m n : MS} {pos : Pos}
theorem pds_nil : PSs X [] (tS W B E o fun env => .ok (.nx, env)) := PSs.imp pss_nil fun Z σ H h => by
  obtain ⟨F, env, g, h⟩ := h
  exact h F H σ (Le.refl _) g
theorem wantS_seq {Z : Ends} {F H : Hp} {σ : L2.St} {env : Ev} (g : Ag W B F H σ env) (h : WantS W B E o F Z (sSeq m n env)) : tS W B E o m { Z with nx := tS W B E o n Z } σ H := by
  refine ⟨F, env, g, ?_⟩
  unfold sSeq at h
  cases e : m env with
  | ok p =>
    obtain ⟨fl, env'⟩ := p
    rw [e] at h
    cases fl with
    | nx => exact fun F' H' σ' l g' => ⟨F', env', g', h.le l⟩
    | rt d => exact h
    | bk => exact h
    | ct => exact h
  | exc x => rw [e] at h; exact h
  | bad => rw [e] at h; exact h
theorem pds_cons (h1 : PS X st (tS W B E o m)) (h2 : PSs X sts (tS W B E o n)) : PSs X (st :: sts) (tS W B E o (sSeq m n)) := PSs.imp (pss_cons h1 h2) fun Z σ H h => by
  obtain ⟨F, env, g, h⟩ := h
  exact wantS_seq g h
def sPass : MS := fun env => .ok (.nx, env)
theorem pds_pass : PS X (.Pass pos) (tS W B E o sPass) := PS.imp ps_pass fun Z σ H h => by
  obtain ⟨F, env, g, h⟩ := h
  exact h F H σ (Le.refl _) g
def sBrk : MS := fun env => .ok (.bk, env)
def sCont : MS := fun env => .ok (.ct, env)
theorem pds_break : PS X (.Break pos) (tS W B E o sBrk) := PS.imp ps_break fun Z σ H h => by
  obtain ⟨F, env, g, h⟩ := h
  exact h F H σ (Le.refl _) g
theorem pds_cont : PS X (.Continue pos) (tS W B E o sCont) := PS.imp ps_continue fun Z σ H h => by
  obtain ⟨F, env, g, h⟩ := h
  exact h F H σ (Le.refl _) g
def sExpr (f : M D) : MS := fun env => (f env).bind fun p => .ok (.nx, p.2)
theorem pds_expr (he : PE X e (tD W B E f)) (hs : swapsWith e none pos.line X.env = pure false) : PS X (.Expr e pos) (tS W B E o (sExpr f)) := PS.imp (ps_expr he hs) fun Z σ H h => by
  obtain ⟨F, env, g, h⟩ := h
  refine ⟨F, env, g, ?_⟩
  unfold sExpr at h
  cases q : f env with
  | ok p => rw [q] at h; exact fun F' H' v l g' r => h F' H' σ l.le g'
  | exc x => rw [q] at h; exact h
  | bad => rw [q] at h; exact h
def sRet (f : M D) : MS := fun env => (f env).bind fun p => .ok (.rt p.1, p.2)
theorem pds_ret (he : PE X e (tD W B E f)) : PS X (.Return (some e) pos) (tS W B E false (sRet f)) := PS.imp (ps_ret he) fun Z σ H h => by
  obtain ⟨F, env, g, h⟩ := h
  refine ⟨F, env, g, ?_⟩
  unfold sRet at h
  cases q : f env with
  | ok p => rw [q] at h; exact fun F' H' v l g' r => h F' H' σ v l.le g' r
  | exc x => rw [q] at h; exact h
  | bad => rw [q] at h; exact h
theorem pds_retO (he : PE X e (tO W B E f)) : PS X (.Return (some e) pos) (tS W B E true (sRet f)) := PS.imp (ps_ret he) fun Z σ H h => by
  obtain ⟨F, env, g, h⟩ := h
  refine ⟨F, env, g, ?_⟩
  unfold sRet at h
  cases q : f env with
  | ok p => rw [q] at h; exact fun F' H' a l g' w n0 n r => h F' H' σ (.ref a) l.le g' ⟨a, rfl, g.bs.free n0, n, r⟩
  | exc x => rw [q] at h; exact h
  | bad => rw [q] at h; exact h
def sRetN : MS := fun env => .ok (.rt .non, env)
theorem pds_retN : PS X (.Return none pos) (tS W B E false sRetN) := PS.imp ps_retN fun Z σ H h => by
  obtain ⟨F, env, g, h⟩ := h
  exact h F H σ .non (Le.refl _) g rfl
def sIf (t : M Bool) (m n : MS) : MS := fun env => (t env).bind fun p => if p.1 then m p.2 else n p.2
theorem pds_if {t : M Bool} (hc : PT X c (tT W B E t)) (ha : PSs X s1 (tS W B E o m)) (hb : PSs X s2 (tS W B E o n)) : PS X (.If c s1 s2 pos) (tS W B E o (sIf t m n)) := PS.imp (ps_if hc ha hb) fun Z σ H h => by
  obtain ⟨F, env, g, h⟩ := h
  refine ⟨F, env, g, ?_⟩
  unfold sIf at h
  cases q : t env with
  | ok p =>
    obtain ⟨k, env'⟩ := p
    rw [q] at h
    intro F' H' l g'
    cases k with
    | true => rw [if_pos rfl]; exact ⟨F', env', g', h.le l.le⟩
    | false => rw [if_neg (by decide)]; exact ⟨F', env', g', h.le l.le⟩
  | exc x => rw [q] at h; exact h
  | bad => rw [q] at h; exact h
/-! ### assignments -/
def sSet (i : Nat) (f : M D) : MS := fun env => (f env).bind fun p => .ok (.nx, p.2.set i (.pu p.1))
theorem pds_set {i : Nat} {x : Str} {pos' : Pos} (hN : X.N.Nodup) (hi : X.N[i]? = some x) (hx : Loc X.env.scope x) (he : PE X e (tD W B E f)) (hs : swapsWith e (some (.Name x pos')) pos.line X.env = pure false) (hf : X.fn x = true ∨ X.env.scope.names.lookup x = some .local) :
    PS X (.Assign [.Name x pos'] e pos) (tS W B E o (sSet i f)) := PS.imp (ps_set hN hi hx he hs hf) fun Z σ H h => by
  obtain ⟨F, env, g, h⟩ := h
  refine ⟨F, env, g, ?_⟩
  unfold sSet at h
  cases q : f env with
  | ok p => rw [q] at h; exact fun F' H' v l g' r => h F' H' _ l.le (g'.setP r)
  | exc x => rw [q] at h; exact h
  | bad => rw [q] at h; exact h
def sSetO (i : Nat) (f : M D) : MS := fun env => (f env).bind fun p => .ok (.nx, p.2.set i (.ow p.1))
theorem pds_setO {i : Nat} {x : Str} {pos' : Pos} (hN : X.N.Nodup) (hi : X.N[i]? = some x) (hx : Loc X.env.scope x) (he : PE X e (tO W B E f)) (hs : swapsWith e (some (.Name x pos')) pos.line X.env = pure false) (hf : X.fn x = true ∨ X.env.scope.names.lookup x = some .local) :
    PS X (.Assign [.Name x pos'] e pos) (tS W B E o (sSetO i f)) := PS.imp (ps_set hN hi hx he hs hf) fun Z σ H h => by
  obtain ⟨F, env, g, h⟩ := h
  refine ⟨F, env, g, ?_⟩
  unfold sSetO at h
  cases q : f env with
  | ok p => rw [q] at h; exact fun F' H' a l g' w n0 n r => h F' H' _ l.le (g'.setO (g.bs.free n0) n r w)
  | exc x => rw [q] at h; exact h
  | bad => rw [q] at h; exact h
end
end Dl

set_option maxHeartbeats 4000000
/-! DL4: defs, their promises over plain data. -/
namespace Dl
open PySem PySem.W L2 PyProof.Rows
/-- the addresses of what is handed over to be changed -/
def adr : List V → List Sl → List Addr
  | .ref a :: vs, .ow _ :: as => a :: adr vs as
  | _ :: vs, _ :: as => adr vs as
  | _, _ => []
/-- arguments: plain, or owned (all apart) -/
def ArgsOk (W : Wd) (F H : Hp) : List V → List Sl → Prop
  | [], [] => True
  | v :: vs, .pu d :: as => Rep W F v d ∧ ArgsOk W F H vs as
  | v :: vs, .ow d :: as => (∃ a, v = .ref a ∧ F a = none ∧ Own W F H a d ∧ a ∉ adr vs as) ∧ ArgsOk W F H vs as
  | _, _ => False
def OutsOk (W : Wd) (F H : Hp) : List Addr → List D → Prop
  | [], [] => True
  | a :: as, d :: ds => F a = none ∧ Own W F H a d ∧ OutsOk W F H as ds
  | _, _ => False
abbrev RF := R (D × List D)
def spT (W : Wd) (o : Bool) (g : List Sl → RF) : Sp := fun vs H Q E => ∃ F args, Le F H ∧ Tb W F H ∧ ArgsOk W F H vs args ∧ (match g args with
  | .ok (d, outs) => ∀ F' H' v, PStep W (adr vs args) F H F' H' → OutsOk W F' H' (adr vs args) outs → RetOk W ⟨F, H, adr vs args, 0⟩ o F' H' v d → Q v H'
  | .exc x => Xk W (adr vs args) F H E x
  | .bad => False)
/-- the slots at the entry -/
def entry : Nat → List Sl → Ev
  | k, .ow d :: as => .pa k d :: entry (k + 1) as
  | k, s :: as => s :: entry k as
  | _, [] => []
/-- what has become of what was handed over -/
def outsOf : Nat → List Sl → Ev → Option (List D)
  | k, .ow _ :: as, .pa j d :: es => if j = k then (outsOf (k + 1) as es).map (d :: ·) else none
  | _, .ow _ :: _, _ => none
  | k, _ :: as, _ :: es => outsOf k as es
  | _, [], _ => some []
  | _, _ :: _, [] => none
def runB (n N : Nat) (o : Bool) (m : MS) (args : List Sl) : RF := if args.length = n then (match m (entry 0 args ++ List.replicate (N - args.length) .no) with
  | .ok (.rt d, env) => (match outsOf 0 args env with
    | some outs => .ok (d, outs)
    | none => .bad)
  | .ok (.nx, env) => (match o, outsOf 0 args env with
    | false, some outs => .ok (.non, outs)
    | _, _ => .bad)
  | .exc x => .exc x
  | _ => .bad) else .bad
section
variable {W : Wd} {F H F' H' : Hp} {vs : List V} {args : List Sl}
theorem entry_length : ∀ (k : Nat) (as : List Sl), (entry k as).length = as.length
  | k, [] => rfl
  | k, .ow d :: as => by simp [entry, entry_length (k + 1) as]
  | k, .pu d :: as => by simp [entry, entry_length k as]
  | k, .pa _ d :: as => by simp [entry, entry_length k as]
  | k, .no :: as => by simp [entry, entry_length k as]
  | k, .fu :: as => by simp [entry, entry_length k as]
theorem ArgsOk.length : ∀ {vs : List V} {as : List Sl}, ArgsOk W F H vs as → vs.length = as.length
  | [], [], _ => rfl
  | [], _ :: _, h => by simp [ArgsOk] at h
  | _ :: _, [], h => by simp [ArgsOk] at h
  | v :: vs, .pu d :: as, h => by simp [ArgsOk.length h.2]
  | v :: vs, .ow d :: as, h => by simp [ArgsOk.length h.2]
  | v :: vs, .no :: as, h => by simp [ArgsOk] at h
  | v :: vs, .fu :: as, h => by simp [ArgsOk] at h
  | v :: vs, .pa _ _ :: as, h => by simp [ArgsOk] at h
/-- the slots at the entry, over a base A0 whose part behind k is adr vs as -/
theorem entry_ok {B : Bs} : ∀ {vs : List V} {as : List Sl} (k : Nat), ArgsOk W F H vs as → (∀ j a, (adr vs as)[j]? = some a → B.A[k + j]? = some a) →
    (∀ (i : Nat) v s, vs[i]? = some v → (entry k as)[i]? = some s → SlOk W B F H (some v) s) ∧
    (∀ i : Nat, isOwn (entry k as)[i]? → ∃ a, vs[i]? = some (.ref a) ∧ a ∈ adr vs as) ∧
    (∀ i j : Nat, i ≠ j → isOwn (entry k as)[i]? → isOwn (entry k as)[j]? → vs[i]? ≠ vs[j]?)
  | [], [], k, _, _ => ⟨fun i v s e => by simp at e, fun i h => by simp [entry, isOwn] at h, fun i j _ h => by simp [entry, isOwn] at h⟩
  | [], _ :: _, _, h, _ => by simp [ArgsOk] at h
  | _ :: _, [], _, h, _ => by simp [ArgsOk] at h
  | v :: vs, .no :: as, _, h, _ => by simp [ArgsOk] at h
  | v :: vs, .pa _ _ :: as, _, h, _ => by simp [ArgsOk] at h
  | v :: vs, .pu d :: as, k, h, hA => by
    have ea : adr (v :: vs) (.pu d :: as) = adr vs as := by cases v <;> rfl
    rw [ea] at hA
    obtain ⟨i1, i2, i3⟩ := entry_ok k h.2 hA
    refine ⟨fun i u s e1 e2 => ?_, fun i hi => ?_, fun i j n hi hj => ?_⟩
    · cases i with
      | zero => simp [entry] at e1 e2; subst e1 e2; exact ⟨_, rfl, h.1⟩
      | succ i => exact i1 i u s (by simpa using e1) (by simpa [entry] using e2)
    · cases i with
      | zero => simp [entry, isOwn] at hi
      | succ i =>
        obtain ⟨a, h1, h2⟩ := i2 i (by simpa [entry] using hi)
        exact ⟨a, by simpa using h1, by rw [ea]; exact h2⟩
    · cases i with
      | zero => simp [entry, isOwn] at hi
      | succ i =>
        cases j with
        | zero => simp [entry, isOwn] at hj
        | succ j => simpa using i3 i j (fun z => n (by rw [z])) (by simpa [entry] using hi) (by simpa [entry] using hj)
  | v :: vs, .ow d :: as, k, h, hA => by
    obtain ⟨⟨a, rfl, fa, ow, na⟩, ht⟩ := h
    have ea : adr (.ref a :: vs) (.ow d :: as) = a :: adr vs as := rfl
    rw [ea] at hA
    obtain ⟨i1, i2, i3⟩ := entry_ok (k + 1) ht (fun j b e => by have := hA (j + 1) b (by simpa using e); rw [← this]; congr 1; omega)
    refine ⟨fun i u s e1 e2 => ?_, fun i hi => ?_, fun i j n hi hj => ?_⟩
    · cases i with
      | zero =>
        simp [entry] at e1 e2; subst e1 e2
        exact ⟨a, rfl, by have := hA 0 a rfl; simpa using this, fa, ow⟩
      | succ i => exact i1 i u s (by simpa using e1) (by simpa [entry] using e2)
    · cases i with
      | zero => exact ⟨a, rfl, by rw [ea]; exact List.mem_cons_self⟩
      | succ i =>
        obtain ⟨b, h1, h2⟩ := i2 i (by simpa [entry] using hi)
        exact ⟨b, by simpa using h1, by rw [ea]; exact List.mem_cons_of_mem _ h2⟩
    · cases i with
      | zero =>
        cases j with
        | zero => exact absurd rfl n
        | succ j =>
          obtain ⟨b, h1, h2⟩ := i2 j (by simpa [entry] using hj)
          simp only [List.getElem?_cons_zero, List.getElem?_cons_succ, h1]
          intro z
          cases z
          exact na h2
      | succ i =>
        cases j with
        | zero =>
          obtain ⟨b, h1, h2⟩ := i2 i (by simpa [entry] using hi)
          simp only [List.getElem?_cons_zero, List.getElem?_cons_succ, h1]
          intro z
          cases z
          exact na h2
        | succ j => simpa using i3 i j (fun z => n (by rw [z])) (by simpa [entry] using hi) (by simpa [entry] using hj)
theorem adr_fa : ∀ {vs : List V} {as : List Sl}, ArgsOk W F H vs as → ∀ a ∈ adr vs as, F a = none
  | [], [], _, a, h => by simp [adr] at h
  | [], _ :: _, h, _, _ => by simp [ArgsOk] at h
  | _ :: _, [], h, _, _ => by simp [ArgsOk] at h
  | v :: vs, .no :: as, h, _, _ => by simp [ArgsOk] at h
  | v :: vs, .pa _ _ :: as, h, _, _ => by simp [ArgsOk] at h
  | v :: vs, .pu d :: as, h, a, ha => by
    have ea : adr (v :: vs) (.pu d :: as) = adr vs as := by cases v <;> rfl
    rw [ea] at ha
    exact adr_fa h.2 a ha
  | v :: vs, .ow d :: as, h, a, ha => by
    obtain ⟨⟨b, rfl, fa, ow, na⟩, ht⟩ := h
    have ea : adr (.ref b :: vs) (.ow d :: as) = b :: adr vs as := rfl
    rw [ea] at ha
    rcases List.mem_cons.mp ha with rfl | ha
    · exact fa
    · exact adr_fa ht a ha
/-- the body begins -/
theorem ag_start {N : List Str} (s : Le F H) (t : Tb W F H) (h : ArgsOk W F H vs args) : Ag W ⟨F, H, adr vs args, 0⟩ F H (L2.start N vs) (entry 0 args ++ List.replicate (N.length - args.length) .no) := by
  have hl := h.length
  obtain ⟨i1, i2, i3⟩ := entry_ok (B := ⟨F, H, adr vs args, 0⟩) 0 h (fun j a e => by simpa using e)
  have lo : ∀ i : Nat, isOwn (entry 0 args ++ List.replicate (N.length - args.length) Sl.no)[i]? → i < args.length ∧ isOwn (entry 0 args)[i]? := fun i hi => by
    by_cases hh : i < args.length
    · rw [List.getElem?_append_left (by rw [entry_length]; exact hh)] at hi
      exact ⟨hh, hi⟩
    · rw [List.getElem?_append_right (by rw [entry_length]; omega)] at hi
      cases q : (List.replicate (N.length - args.length) Sl.no)[i - (entry 0 args).length]? with
      | none => rw [q] at hi; exact hi.elim
      | some z =>
        rw [q] at hi
        have := List.mem_of_getElem? q
        rw [List.eq_of_mem_replicate this] at hi
        exact hi.elim
  have so : ∀ i : Nat, i < vs.length → (L2.start N vs)[i]? = (vs[i]?).map some := fun i hi => by
    unfold L2.start
    rw [List.getElem?_append_left (by simpa using hi), List.getElem?_map]
  refine ⟨by unfold L2.start; simp [entry_length, hl], fun i v s e1 e2 => ?_, fun i j n hi hj => ?_, PStep.refl s t, adr_fa h⟩
  · by_cases hh : i < args.length
    · rw [so i (by omega)] at e1
      rw [List.getElem?_append_left (by rw [entry_length]; exact hh)] at e2
      cases q : vs[i]? with
      | none => rw [q] at e1; cases e1
      | some x =>
        rw [q] at e1
        have e1 : some x = v := by simpa using e1
        subst e1
        exact i1 i x s q e2
    · rw [List.getElem?_append_right (by rw [entry_length]; omega)] at e2
      rw [List.eq_of_mem_replicate (List.mem_of_getElem? e2)]
      trivial
  · obtain ⟨li, hi⟩ := lo i hi
    obtain ⟨lj, hj⟩ := lo j hj
    rw [so i (by omega), so j (by omega)]
    intro z
    refine i3 i j n hi hj ?_
    cases q : vs[i]? with
    | none => rw [List.getElem?_eq_none_iff] at q; omega
    | some x =>
      cases q2 : vs[j]? with
      | none => rw [List.getElem?_eq_none_iff] at q2; omega
      | some y =>
        rw [q, q2] at z
        simpa using z
theorem outs_ok {B : Bs} {σ : L2.St} : ∀ {vs : List V} {as : List Sl} (k : Nat) {off : Nat} {env env' : Ev} {outs : List D}, Ag W B F' H' σ env → (∀ i : Nat, env'[i]? = env[off + i]?) → ArgsOk W F H vs as → (∀ j a, (adr vs as)[j]? = some a → B.A[k + j]? = some a) → outsOf k as env' = some outs → OutsOk W F' H' (adr vs as) outs
  | [], [], k, off, env, env', outs, g, he, h, hA, e => by
    simp only [outsOf, Option.some.injEq] at e; subst e; trivial
  | [], _ :: _, _, _, _, _, _, _, _, h, _, _ => by simp [ArgsOk] at h
  | _ :: _, [], _, _, _, _, _, _, _, h, _, _ => by simp [ArgsOk] at h
  | v :: vs, .no :: as, _, _, _, _, _, _, _, h, _, _ => by simp [ArgsOk] at h
  | v :: vs, .pa _ _ :: as, _, _, _, _, _, _, _, h, _, _ => by simp [ArgsOk] at h
  | v :: vs, .pu d :: as, k, off, env, env', outs, g, he, h, hA, e => by
    have ea : adr (v :: vs) (.pu d :: as) = adr vs as := by cases v <;> rfl
    rw [ea] at hA ⊢
    cases env' with
    | nil => simp [outsOf] at e
    | cons s es =>
      have e : outsOf k as es = some outs := by cases s <;> exact e
      exact outs_ok k (off := off + 1) g (fun i => by have := he (i + 1); simp at this; rw [this]; congr 1; omega) h.2 hA e
  | v :: vs, .ow d :: as, k, off, env, env', outs, g, he, h, hA, e => by
    obtain ⟨⟨a, rfl, fa, ow, na⟩, ht⟩ := h
    have ea : adr (.ref a :: vs) (.ow d :: as) = a :: adr vs as := rfl
    rw [ea] at hA ⊢
    cases env' with
    | nil => simp [outsOf] at e
    | cons s es =>
      cases s with
      | pa j d' =>
        simp only [outsOf] at e
        split at e
        · rename_i hj
          subst hj
          cases q : outsOf (j + 1) as es with
          | none => rw [q] at e; cases e
          | some o2 =>
            rw [q] at e
            simp only [Option.map_some, Option.some.injEq] at e
            subst e
            have h0 : env[off]? = some (.pa j d') := by have := he 0; simpa using this.symm
            have hi := get_lt h0
            have hs : σ[off]? = some (σ[off]'(by rw [g.len]; exact hi)) := List.getElem?_eq_getElem _
            obtain ⟨b, eb, hb, fb, ob⟩ := g.sl off _ _ hs h0
            have : a = b := by
              have := hA 0 a rfl
              simp only [Nat.add_zero] at this
              rw [this] at hb; cases hb; rfl
            subst this
            exact ⟨fb, ob, outs_ok (j + 1) (off := off + 1) g (fun i => by have := he (i + 1); simp at this; rw [this]; congr 1; omega) ht (fun j' b e => by have := hA (j' + 1) b (by simpa using e); rw [← this]; congr 1; omega) q⟩
        · cases e
      | no => simp [outsOf] at e
      | fu => simp [outsOf] at e
      | pu d' => simp [outsOf] at e
      | ow d' => simp [outsOf] at e
end
/-- a def by its body -/
theorem fn_body {P : Program} {w : World} {K : Frag} {mg : Str → Option Value} {base : Heap} {nm ql : Str} {pr : Arguments} {bd : List Stmt} {sc : Scope} {dv : List V} {kd : List (Str × V)} {f : Addr} {fd : FuncData} {N ps : List Str} {k : Nat} {W : Wd} {o : Bool} {m : MS}
    (F : FunD K nm ql pr bd sc dv kd f fd) (S : FnScope N ps sc)
    (hb : ∀ (cdv : Value) (A : Around) (out : List PySem.Env) (z : Shared) (H0 : Hp) (B : Bs) (E : XK), Room k (A.deeper (envOfC ql sc z.heap.objs.size f cdv)) → (A.deeper (envOfC ql sc z.heap.objs.size f cdv)).guards = some [] →
      PSs (cxOf (L2.CX P w) P w K mg base N ql sc f cdv A out z H0 E) bd (tS W B E o m)) : Wp.FnG P w K mg base (k + 1) f fd ps (spT W o (runB ps.length N.length o m)) := by
  refine Wp.okG F S (fun vs H Q E h => ?_) (fun cdv A out z H vs Q E hr hg h => ?_)
  · obtain ⟨F0, args, s, t, ha, h⟩ := h
    rw [ha.length]
    unfold runB at h
    split at h
    · rename_i e
      split at e
      · assumption
      · cases e
    · rename_i e
      split at e
      · assumption
      · cases e
    · exact h.elim
  obtain ⟨F0, args, s, t, ha, h⟩ := h
  refine ⟨_, hb cdv A out z H ⟨F0, H, adr vs args, 0⟩ E hr hg, F0, _, ag_start s t ha, ?_⟩
  have hN : ps.length ≤ N.length := by
    have := S.pre
    have l := congrArg List.length this
    rw [List.length_take] at l
    omega
  unfold runB at h
  by_cases hln : args.length = ps.length
  case neg => rw [if_neg hln] at h; exact h.elim
  rw [if_pos hln] at h
  cases e : m (entry 0 args ++ List.replicate (N.length - args.length) .no) with
  | ok p =>
    obtain ⟨fl, env⟩ := p
    rw [e] at h
    cases fl with
    | rt d =>
      intro F' H' σ' v _ g r
      simp only at h
      cases q : outsOf 0 args env with
      | none => rw [q] at h; exact h.elim
      | some outs =>
        rw [q] at h
        exact h F' H' v g.bs (outs_ok 0 (off := 0) g (fun i => by simp) ha (fun j a e => by simpa using e) q) r
    | nx =>
      intro F' H' σ' _ g
      simp only at h
      cases o with
      | true => exact h.elim
      | false =>
        cases q : outsOf 0 args env with
        | none => rw [q] at h; exact h.elim
        | some outs =>
          rw [q] at h
          exact h F' H' .non g.bs (outs_ok 0 (off := 0) g (fun i => by simp) ha (fun j a e => by simpa using e) q) rfl
    | bk => exact h.elim
    | ct => exact h.elim
  | exc x => rw [e] at h; exact h
  | bad => rw [e] at h; exact h.elim
end Dl

set_option maxHeartbeats 4000000
/-! DL5: calls of defs. -/
namespace Dl
open PySem PySem.W L2 PyProof.Rows
/-! ### argument lists with owned things and stars -/
/-- an argument's value: plain, or what slot i owns -/
inductive Av where
  | p (d : D) | o (i : Nat)
inductive Am where
  | e (m : M D) | o (i : Nat) | s (m : M D)
def itemsD : D → Option (List D)
  | .lst ds => some ds
  | .tup ds => some ds
  | _ => none
/-- slot i owns something -/
def mOwnd (i : Nat) : M Unit := fun env => match env[i]? with
  | some (.ow _) => .ok ((), env)
  | some (.pa _ _) => .ok ((), env)
  | _ => .bad
def mArgs : List Am → M (List Av)
  | [] => M.ret []
  | .e m :: r => M.bind m fun d => M.bind (mArgs r) fun as => M.ret (.p d :: as)
  | .o i :: r => M.bind (mOwnd i) fun _ => M.bind (mArgs r) fun as => M.ret (.o i :: as)
  | .s m :: r => M.bind m fun d => match itemsD d with
    | some ds => M.bind (mArgs r) fun as => M.ret (ds.map .p ++ as)
    | none => fun _ => .bad
def AvOk (W : Wd) (F : Hp) (σ : L2.St) (v : V) : Av → Prop
  | .p d => Rep W F v d
  | .o i => σ[i]? = some (some v)
def AvsOk (W : Wd) (F : Hp) (σ : L2.St) : List V → List Av → Prop
  | [], [] => True
  | v :: vs, a :: as => AvOk W F σ v a ∧ AvsOk W F σ vs as
  | _, _ => False
section
variable {X : Cx} {W : Wd} {B : Bs} {E : XK} {F F' H : Hp} {σ : L2.St} {a : Expr} {es : List Expr} {f : M D} {pos : Pos}
theorem AvsOk.le (l : Le F F') : ∀ {vs : List V} {as : List Av}, AvsOk W F σ vs as → AvsOk W F' σ vs as
  | [], [], _ => trivial
  | [], _ :: _, h => h.elim
  | _ :: _, [], h => h.elim
  | v :: vs, .p d :: as, h => ⟨Rep.le l h.1, AvsOk.le l h.2⟩
  | v :: vs, .o i :: as, h => ⟨h.1, AvsOk.le l h.2⟩
theorem AvsOk.app : ∀ {us vs : List V} {ds : List D} {as : List Av}, Reps W F us ds → AvsOk W F σ vs as → AvsOk W F σ (us ++ vs) (ds.map .p ++ as)
  | us, vs, [], as, r, h => by rw [show us = [] from r]; exact h
  | us, vs, d :: ds, as, r, h => by
    obtain ⟨v, t, rfl, r1, r2⟩ := r
    exact ⟨r1, AvsOk.app r2 h⟩
def WantV (W : Wd) (B : Bs) (E : XK) (F H : Hp) (env : Ev) (σ : L2.St) (Q : List V → Hp → Prop) : RE (List Av) → Prop
  | .ok (as, env') => ∀ F' H' vs, Stp σ F H env F' H' env' → Ag W B F' H' σ env' → AvsOk W F' σ vs as → Q vs H'
  | .exc x => Xk W B.A B.F B.H E x
  | .bad => False
def tV (W : Wd) (B : Bs) (E : XK) (m : M (List Av)) : TA := fun σ H Q => ∃ F env, Ag W B F H σ env ∧ WantV W B E F H env σ Q (m env)
theorem WantV.st {F H F1 H1 : Hp} {env env1 : Ev} {Q : List V → Hp → Prop} {r : RE (List Av)} (h : WantV W B E F H env σ Q r) (l : Stp σ F H env F1 H1 env1) : WantV W B E F1 H1 env1 σ Q r := by
  cases r with
  | ok p => obtain ⟨d, e⟩ := p; exact fun F' H' v l' g r => h F' H' v (l.trans l') g r
  | exc x => exact h
  | bad => exact h
theorem wantV_bind {α : Type} {m : M (List Av)} {k : List Av → M α} {H F : Hp} {env : Ev} {Q : List V → Hp → Prop} {G : Hp → Hp → Ev → RE α → Prop} (g : Ag W B F H σ env) (h : G F H env (M.bind m k env)) (le : ∀ F H env F' H' env' r, Stp σ F H env F' H' env' → G F H env r → G F' H' env' r) (hx : ∀ F H env x, G F H env (.exc x) → Xk W B.A B.F B.H E x) (hb : ∀ F H env, ¬ G F H env .bad)
    (q : ∀ as env1 F1 H1 vs, Stp σ F H env F1 H1 env1 → Ag W B F1 H1 σ env1 → AvsOk W F1 σ vs as → G F1 H1 env1 (k as env1) → Q vs H1) : tV W B E m σ H Q := by
  refine ⟨F, env, g, ?_⟩
  unfold M.bind at h
  cases e : m env with
  | ok p =>
    obtain ⟨d, env1⟩ := p
    rw [e] at h
    exact fun F1 H1 v l g1 r => q d env1 F1 H1 v l g1 r (le _ _ _ _ _ _ _ l h)
  | exc x => rw [e] at h; exact hx _ _ _ _ h
  | bad => rw [e] at h; exact hb _ _ _ h
theorem pdv_nil : PA X [] (tV W B E (mArgs [])) := PA.imp pa_nil fun σ H Q h => by
  obtain ⟨F, env, g, h⟩ := h
  exact h F H [] Stp.refl g trivial
theorem pdv_e {ms : List Am} (ha : PE X a (tD W B E f)) (hr : PA X es (tV W B E (mArgs ms))) (hs : starEach (a :: es) X.env = (false, eval a X.env) :: starEach es X.env) : PA X (a :: es) (tV W B E (mArgs (.e f :: ms))) := PA.imp (pa_cons ha hr hs) fun σ H Q h => by
  obtain ⟨F, env, g, h⟩ := h
  refine wantE_bind (G := fun F H env r => WantV W B E F H env σ Q r) g h (fun _ _ _ _ _ _ _ l w => WantV.st w l) (fun _ _ _ _ w => w) (fun _ _ _ w => w) fun d env1 F1 H1 v l g1 r w => ?_
  refine wantV_bind (G := fun F H env r => WantV W B E F H env σ Q r) g1 w (fun _ _ _ _ _ _ _ l w => WantV.st w l) (fun _ _ _ _ w => w) (fun _ _ _ w => w) fun ds env2 F2 H2 vs l2 g2 r2 w2 => ?_
  exact w2 F2 H2 (v :: vs) Stp.refl g2 ⟨Rep.le l2.le r, r2⟩
theorem pdv_o {ms : List Am} {i : Nat} {x : Str} (hN : X.N[i]? = some x) (hv : Vis X.env.scope x) (hd : (x == ("__debug__" : Str)) = false) (hcd : (x == ("__classdict__" : Str)) = false) (hr : PA X es (tV W B E (mArgs ms))) :
    PA X (.Name x pos :: es) (tV W B E (mArgs (.o i :: ms))) := PA.imp (pa_cons (pe_var hN hv hd hcd) hr rfl) fun σ H Q h => by
  obtain ⟨F, env, g, h⟩ := h
  have key : isOwn env[i]? → WantV W B E F H env σ Q (M.bind (mArgs ms) (fun as => M.ret (Av.o i :: as)) env) → tCons (tVar i) (tV W B E (mArgs ms)) σ H Q := fun ho h => by
    cases e : env[i]? with
    | none => rw [e] at ho; exact ho.elim
    | some s =>
      have hs : σ[i]? = some (σ[i]'(by rw [g.len]; exact get_lt e)) := List.getElem?_eq_getElem _
      have sl := g.sl i _ _ hs e
      rw [e] at ho
      obtain ⟨v, ev⟩ : ∃ v, σ[i]'(by rw [g.len]; exact get_lt e) = some v := by
        cases s with
        | no => exact ho.elim
        | pu d => exact ho.elim
        | ow d => obtain ⟨a, ea, _⟩ := sl; exact ⟨_, ea⟩
        | fu => exact ho.elim
        | pa k d => obtain ⟨a, ea, _⟩ := sl; exact ⟨_, ea⟩
      rw [ev] at hs
      refine ⟨v, hs, ?_⟩
      refine wantV_bind (G := fun F H env r => WantV W B E F H env σ Q r) g h (fun _ _ _ _ _ _ _ l w => WantV.st w l) (fun _ _ _ _ w => w) (fun _ _ _ w => w) fun ds env2 F2 H2 vs l2 g2 r2 w2 => ?_
      exact w2 F2 H2 (v :: vs) Stp.refl g2 ⟨hs, r2⟩
  simp only [mArgs] at h
  unfold M.bind mOwnd at h
  cases e : env[i]? with
  | none => simp only [e] at h; exact h.elim
  | some s =>
    simp only [e] at h
    cases s with
    | no => exact h.elim
    | pu d => exact h.elim
    | ow d => exact key (by rw [e]; trivial) h
    | fu => exact h.elim
    | pa k d => exact key (by rw [e]; trivial) h
theorem items_of {K : Frag} {v : V} {d : D} {ds : List D} (s : Le F H) (r : Rep W F v d) (e : itemsD d = some ds) : ∃ p xs, v = .ref p ∧ (SqT K H p xs ∨ SqL K H p xs) ∧ Reps W F xs ds := by
  cases d with
  | lst xs =>
    simp only [itemsD, Option.some.injEq] at e; subst e
    obtain ⟨p, vs, rfl, h, r⟩ := r
    exact ⟨p, vs, rfl, .inr (SqL.of (s _ _ h)), r⟩
  | tup xs =>
    simp only [itemsD, Option.some.injEq] at e; subst e
    obtain ⟨p, vs, rfl, h, r⟩ := r
    exact ⟨p, vs, rfl, .inl (SqT.of (s _ _ h)), r⟩
  | _ => cases e
theorem pdv_s {ms : List Am} (ha : PE X a (tD W B E f)) (hr : PA X es (tV W B E (mArgs ms))) : PA X (.Starred a pos :: es) (tV W B E (mArgs (.s f :: ms))) := PA.imp (StX.pa_star ha hr) fun σ H Q h => by
  obtain ⟨F, env, g, h⟩ := h
  refine wantE_bind (G := fun F H env r => WantV W B E F H env σ Q r) g h (fun _ _ _ _ _ _ _ l w => WantV.st w l) (fun _ _ _ _ w => w) (fun _ _ _ w => w) fun d env1 F1 H1 v l g1 r w => ?_
  cases e : itemsD d with
  | none => simp only [e] at w; exact w.elim
  | some ds =>
    simp only [e] at w
    obtain ⟨p, xs, ev, hx, rs⟩ := items_of (K := X.K) g1.sub r e
    refine ⟨p, xs, ev, hx, ?_⟩
    refine wantV_bind (G := fun F H env r => WantV W B E F H env σ Q r) g1 w (fun _ _ _ _ _ _ _ l w => WantV.st w l) (fun _ _ _ _ w => w) (fun _ _ _ w => w) fun as env2 F2 H2 vs l2 g2 r2 w2 => ?_
    exact w2 F2 H2 (xs ++ vs) Stp.refl g2 (AvsOk.app (rs.le l2.le) r2)
end
/-! ### what is handed over, what comes back -/
def slOf (env : Ev) : List Av → Option (List Sl)
  | [] => some []
  | .p d :: as => (slOf env as).map (.pu d :: ·)
  | .o i :: as => if as.any (fun | .o j => j == i | _ => false) then none else (match env[i]? with
    | some (.ow d) => (slOf env as).map (.ow d :: ·)
    | some (.pa _ d) => (slOf env as).map (.ow d :: ·)
    | _ => none)
def forget : List Av → Ev → Ev
  | [], env => env
  | .p _ :: as, env => forget as env
  | .o i :: as, env => (forget as env).set i .no
def addBack (env0 : Ev) : List Av → List D → Ev → Ev
  | .p _ :: as, ds, env => addBack env0 as ds env
  | .o i :: as, d :: ds, env => (match env0[i]? with
    | some (.ow _) => (addBack env0 as ds env).set i (.ow d)
    | some (.pa k _) => (addBack env0 as ds env).set i (.pa k d)
    | _ => addBack env0 as ds env)
  | _, _, env => env
def putO (as : List Av) (outs : List D) (env : Ev) : Ev := addBack env as outs (forget as env)
def mCall (g : List Sl → RF) (m : M (List Av)) : M D := M.bind m fun as env => match slOf env as with
  | some args => (match g args with
    | .ok (d, outs) => .ok (d, putO as outs env)
    | .exc x => .exc x
    | .bad => .bad)
  | none => .bad
section
variable {W : Wd} {B : Bs} {E : XK} {F H F' H' : Hp} {σ : L2.St} {env : Ev}
theorem Ag.weak {i : Nat} (g : Ag W B F H σ env) : Ag W B F H σ (env.set i .no) where
  len := by simp [g.len]
  sl := fun j v s e1 e2 => by
    by_cases z : j = i
    · subst z
      have hj : j < env.length := by have := get_lt e2; simpa using this
      rw [List.getElem?_set_self hj] at e2
      cases e2; trivial
    · rw [List.getElem?_set_ne (Ne.symm z)] at e2
      exact g.sl j v s e1 e2
  inj := fun j k n h1 h2 => by
    have hh : ∀ j, isOwn (env.set i .no)[j]? → isOwn env[j]? := fun j h => by
      by_cases z : j = i
      · subst z
        by_cases hj : j < env.length
        · rw [List.getElem?_set_self hj] at h; exact h.elim
        · rw [List.getElem?_eq_none_iff.mpr (by simp; omega)] at h; exact h.elim
      · rw [List.getElem?_set_ne (Ne.symm z)] at h; exact h
    exact g.inj j k n (hh j h1) (hh k h2)
  bs := g.bs
  fa := g.fa
theorem forget_ag : ∀ (as : List Av), Ag W B F H σ env → Ag W B F H σ (forget as env)
  | [], g => g
  | .p _ :: as, g => forget_ag as g
  | .o i :: as, g => (forget_ag as g).weak
theorem forget_own : ∀ (as : List Av) (j : Nat), isOwn (forget as env)[j]? → isOwn env[j]? ∧ ∀ a ∈ as, a ≠ .o j
  | [], j, h => ⟨h, fun a ha => by simp at ha⟩
  | .p d :: as, j, h => by
    obtain ⟨h1, h2⟩ := forget_own as j h
    refine ⟨h1, fun a ha => ?_⟩
    rcases List.mem_cons.mp ha with rfl | ha
    · exact fun z => nomatch z
    · exact h2 a ha
  | .o i :: as, j, h => by
    by_cases z : j = i
    · subst z
      exfalso
      simp only [forget] at h
      by_cases hj : j < (forget as env).length
      · rw [List.getElem?_set_self hj] at h; exact h
      · rw [List.getElem?_eq_none_iff.mpr (by simp; omega)] at h; exact h
    · simp only [forget] at h
      rw [List.getElem?_set_ne (Ne.symm z)] at h
      obtain ⟨h1, h2⟩ := forget_own as j h
      refine ⟨h1, fun a ha => ?_⟩
      rcases List.mem_cons.mp ha with rfl | ha
      · exact fun q => z (by cases q; rfl)
      · exact h2 a ha
/-- a step that changes things at A, which no slot owns -/
theorem Ag.stepA {A : List Addr} (g : Ag W B F H σ env) (p : PStep W A F H F' H') (hA : ∀ x ∈ A, x ∈ B.A ∨ B.H x = none) (nw : ∀ a ∈ A, Nw σ env a) : Ag W B F' H' σ env where
  len := g.len
  sl := fun i v s e1 e2 => by
    have r := g.sl i v s e1 e2
    cases s with
    | no => trivial
    | pu d => obtain ⟨x, e, r⟩ := r; exact ⟨x, e, r.le p.le⟩
    | ow d =>
      obtain ⟨a, e, n, f, r⟩ := r
      obtain ⟨o, ho, _⟩ := r.trk
      have na : a ∉ A := fun z => nw a z i (by rw [e2]; trivial) (by rw [e1, e])
      exact ⟨a, e, n, (p.new a (by rw [ho]; simp)).trans f, r.le p.le fun o q t => p.old a o q na t⟩
    | fu => exact r
    | pa k d =>
      obtain ⟨a, e, n, f, r⟩ := r
      obtain ⟨o, ho, _⟩ := r.trk
      have na : a ∉ A := fun z => nw a z i (by rw [e2]; trivial) (by rw [e1, e])
      exact ⟨a, e, n, (p.new a (by rw [ho]; simp)).trans f, r.le p.le fun o q t => p.old a o q na t⟩
  inj := g.inj
  bs := g.bs.trans p hA
  fa := g.fa
/-- a slot owns again what stands at its address -/
theorem Ag.again {i : Nat} {s : Sl} {a : Addr} (g : Ag W B F H σ env) (e : σ[i]? = some (some (.ref a))) (ok : SlOk W B F H (some (.ref a)) s) (nw : ∀ j, j ≠ i → isOwn env[j]? → σ[j]? ≠ some (some (.ref a))) : Ag W B F H σ (env.set i s) where
  len := by simp [g.len]
  sl := fun j v t e1 e2 => by
    by_cases z : j = i
    · subst z
      have hj : j < env.length := by have := get_lt e2; simpa using this
      rw [List.getElem?_set_self hj] at e2
      cases e2
      rw [e] at e1; cases e1
      exact ok
    · rw [List.getElem?_set_ne (Ne.symm z)] at e2
      exact g.sl j v t e1 e2
  inj := fun j k n h1 h2 => by
    by_cases z1 : j = i
    · subst z1
      have z2 : k ≠ j := fun z => n z.symm
      rw [List.getElem?_set_ne (Ne.symm z2)] at h2
      rw [e]
      exact fun q => nw k z2 h2 q.symm
    · rw [List.getElem?_set_ne (Ne.symm z1)] at h1
      by_cases z2 : k = i
      · subst z2
        rw [e]
        exact fun q => nw j z1 h1 q
      · rw [List.getElem?_set_ne (Ne.symm z2)] at h2
        exact g.inj j k n h1 h2
  bs := g.bs
  fa := g.fa
theorem slOf_mem {j : Nat} : ∀ {as : List Av} {args : List Sl}, slOf env as = some args → Av.o j ∈ as → isOwn env[j]?
  | [], _, _, h => by simp at h
  | .p d :: as, args, e, h => by
    simp only [slOf] at e
    cases q : slOf env as with
    | none => rw [q] at e; cases e
    | some r => exact slOf_mem q (by simpa using h)
  | .o i :: as, args, e, h => by
    simp only [slOf] at e
    split at e
    · cases e
    · rcases List.mem_cons.mp h with z | h
      · cases z
        split at e
        · rename_i q; rw [q]; trivial
        · rename_i q; rw [q]; trivial
        · cases e
      · have : ∃ r, slOf env as = some r := by
          split at e
          · cases q : slOf env as with
            | none => rw [q] at e; cases e
            | some r => exact ⟨r, rfl⟩
          · cases q : slOf env as with
            | none => rw [q] at e; cases e
            | some r => exact ⟨r, rfl⟩
          · cases e
        obtain ⟨r, q⟩ := this
        exact slOf_mem q h
/-- the arguments as the callee wants them -/
theorem args_ok (g : Ag W B F H σ env) : ∀ {vs : List V} {as : List Av} {args : List Sl}, AvsOk W F σ vs as → slOf env as = some args →
    ArgsOk W F H vs args ∧ (∀ a ∈ adr vs args, (a ∈ B.A ∨ B.H a = none) ∧ ∃ j, Av.o j ∈ as ∧ σ[j]? = some (some (.ref a)) ∧ isOwn env[j]?)
  | [], [], args, _, e => by
    simp only [slOf, Option.some.injEq] at e; subst e
    exact ⟨trivial, fun a h => by simp [adr] at h⟩
  | [], _ :: _, _, h, _ => h.elim
  | _ :: _, [], _, h, _ => h.elim
  | v :: vs, .p d :: as, args, h, e => by
    simp only [slOf] at e
    cases q : slOf env as with
    | none => rw [q] at e; cases e
    | some r =>
      rw [q] at e
      simp only [Option.map_some, Option.some.injEq] at e; subst e
      obtain ⟨i1, i2⟩ := args_ok g h.2 q
      refine ⟨⟨h.1, i1⟩, fun a ha => ?_⟩
      have ea : adr (v :: vs) (.pu d :: r) = adr vs r := by cases v <;> rfl
      rw [ea] at ha
      obtain ⟨x1, j, x2, x3⟩ := i2 a ha
      exact ⟨x1, j, List.mem_cons_of_mem _ x2, x3⟩
  | v :: vs, .o i :: as, args, h, e => by
    simp only [slOf] at e
    split at e
    · cases e
    · rename_i hn
      have hni : Av.o i ∉ as := fun z => hn (List.any_eq_true.mpr ⟨_, z, by simp⟩)
      have fin : ∀ (d : D) (r : List Sl) (a : Addr), slOf env as = some r → v = .ref a → F a = none → Own W F H a d → (a ∈ B.A ∨ B.H a = none) → isOwn env[i]? →
          ArgsOk W F H (v :: vs) (.ow d :: r) ∧ (∀ a ∈ adr (v :: vs) (.ow d :: r), (a ∈ B.A ∨ B.H a = none) ∧ ∃ j, Av.o j ∈ (.o i :: as) ∧ σ[j]? = some (some (.ref a)) ∧ isOwn env[j]?) := fun d r a q ev fa ow hb ho => by
        subst ev
        obtain ⟨i1, i2⟩ := args_ok g h.2 q
        refine ⟨⟨⟨a, rfl, fa, ow, fun z => ?_⟩, i1⟩, fun b hbm => ?_⟩
        · obtain ⟨_, j, x2, x3, x4⟩ := i2 a z
          by_cases hj : j = i
          · subst hj; exact hni x2
          · exact g.inj j i hj x4 ho (by rw [x3]; exact h.1.symm)
        · rcases List.mem_cons.mp hbm with rfl | hbm
          · exact ⟨hb, i, List.mem_cons_self, h.1, ho⟩
          · obtain ⟨x1, j, x2, x3⟩ := i2 b hbm
            exact ⟨x1, j, List.mem_cons_of_mem _ x2, x3⟩
      split at e
      · rename_i d q
        cases q2 : slOf env as with
        | none => rw [q2] at e; cases e
        | some r =>
          rw [q2] at e
          simp only [Option.map_some, Option.some.injEq] at e; subst e
          obtain ⟨a, ea, n0, fa, ow⟩ := g.sl i _ _ h.1 q
          cases ea
          exact fin d r a q2 rfl fa ow (.inr n0) (by rw [q]; trivial)
      · rename_i k d q
        cases q2 : slOf env as with
        | none => rw [q2] at e; cases e
        | some r =>
          rw [q2] at e
          simp only [Option.map_some, Option.some.injEq] at e; subst e
          obtain ⟨a, ea, n0, fa, ow⟩ := g.sl i _ _ h.1 q
          cases ea
          exact fin d r a q2 rfl fa ow (.inl (List.mem_of_getElem? n0)) (by rw [q]; trivial)
      · cases e
/-- what comes back stands in its slots again -/
theorem back_ok {env0 : Ev} (g0 : Ag W B F H σ env0) (g : Ag W B F' H' σ env) : ∀ {vs : List V} {as : List Av} {args : List Sl} {outs : List D}, AvsOk W F σ vs as → slOf env0 as = some args → OutsOk W F' H' (adr vs args) outs →
    (∀ j, isOwn env[j]? → isOwn env0[j]? ∧ Av.o j ∉ as) → Ag W B F' H' σ (addBack env0 as outs env) ∧ ∀ j, isOwn (addBack env0 as outs env)[j]? → isOwn env[j]? ∨ Av.o j ∈ as
  | [], [], args, outs, _, e, ho, _ => by
    simp only [slOf, Option.some.injEq] at e; subst e
    cases outs with
    | nil => exact ⟨g, fun j h => .inl h⟩
    | cons d ds => exact ho.elim
  | [], _ :: _, _, _, h, _, _, _ => h.elim
  | _ :: _, [], _, _, h, _, _, _ => h.elim
  | v :: vs, .p d :: as, args, outs, h, e, ho, hw => by
    simp only [slOf] at e
    cases q : slOf env0 as with
    | none => rw [q] at e; cases e
    | some r =>
      rw [q] at e
      simp only [Option.map_some, Option.some.injEq] at e; subst e
      have ea : adr (v :: vs) (.pu d :: r) = adr vs r := by cases v <;> rfl
      rw [ea] at ho
      obtain ⟨i1, i2⟩ := back_ok g0 g h.2 q ho fun j hj => ⟨(hw j hj).1, fun z => (hw j hj).2 (List.mem_cons_of_mem _ z)⟩
      exact ⟨i1, fun j hj => (i2 j hj).imp id fun z => List.mem_cons_of_mem _ z⟩
  | v :: vs, .o i :: as, args, outs, h, e, ho, hw => by
    simp only [slOf] at e
    split at e
    · cases e
    · rename_i hn
      have hni : Av.o i ∉ as := fun z => hn (List.any_eq_true.mpr ⟨_, z, by simp⟩)
      have fin : ∀ (d : D) (r : List Sl) (a : Addr) (s : D → Sl), slOf env0 as = some r → v = .ref a → isOwn env0[i]? → OutsOk W F' H' (adr (v :: vs) (.ow d :: r)) outs → (∀ d' ds, outs = d' :: ds → addBack env0 (.o i :: as) outs env = (addBack env0 as ds env).set i (s d')) →
          (∀ d', F' a = none → Own W F' H' a d' → SlOk W B F' H' (some (.ref a)) (s d')) → (∀ d', isOwn (some (s d'))) →
          Ag W B F' H' σ (addBack env0 (.o i :: as) outs env) ∧ ∀ j, isOwn (addBack env0 (.o i :: as) outs env)[j]? → isOwn env[j]? ∨ Av.o j ∈ (.o i :: as) := fun d r a s q ev hio ho hs hsl hso => by
        subst ev
        cases outs with
        | nil => exact ho.elim
        | cons d' ds =>
          obtain ⟨f1, f2, f3⟩ := ho
          rw [hs d' ds rfl]
          obtain ⟨i1, i2⟩ := back_ok g0 g h.2 q f3 fun j hj => ⟨(hw j hj).1, fun z => (hw j hj).2 (List.mem_cons_of_mem _ z)⟩
          refine ⟨i1.again h.1 (hsl d' f1 f2) fun j hj hoj z => ?_, fun j hj => ?_⟩
          · rcases i2 j hoj with x | x
            · exact g0.inj j i hj (hw j x).1 hio (by rw [z]; exact h.1.symm)
            · exact g0.inj j i hj (slOf_mem q x) hio (by rw [z]; exact h.1.symm)
          · by_cases z : j = i
            · subst z; exact .inr List.mem_cons_self
            · rw [List.getElem?_set_ne (Ne.symm z)] at hj
              exact (i2 j hj).imp id fun z => List.mem_cons_of_mem _ z
      split at e
      · rename_i d q
        cases q2 : slOf env0 as with
        | none => rw [q2] at e; cases e
        | some r =>
          rw [q2] at e
          simp only [Option.map_some, Option.some.injEq] at e; subst e
          obtain ⟨a, ea, n0, fa, ow⟩ := g0.sl i _ _ h.1 q
          cases ea
          exact fin d r a .ow q2 rfl (by rw [q]; trivial) ho (fun d' ds eo => by rw [eo]; simp only [addBack, q]) (fun d' h1 h2 => ⟨a, rfl, n0, h1, h2⟩) fun _ => trivial
      · rename_i k d q
        cases q2 : slOf env0 as with
        | none => rw [q2] at e; cases e
        | some r =>
          rw [q2] at e
          simp only [Option.map_some, Option.some.injEq] at e; subst e
          obtain ⟨a, ea, n0, fa, ow⟩ := g0.sl i _ _ h.1 q
          cases ea
          exact fin d r a (.pa k) q2 rfl (by rw [q]; trivial) ho (fun d' ds eo => by rw [eo]; simp only [addBack, q]) (fun d' h1 h2 => ⟨a, rfl, n0, h1, h2⟩) fun _ => trivial
      · cases e
/-- behind a call -/
theorem call_back {A : List Addr} {vs : List V} {as : List Av} {args : List Sl} {outs : List D} (g : Ag W B F H σ env) (h : AvsOk W F σ vs as) (e : slOf env as = some args) (p : PStep W (adr vs args) F H F' H') (ho : OutsOk W F' H' (adr vs args) outs) :
    Ag W B F' H' σ (putO as outs env) ∧ Stp σ F H env F' H' (putO as outs env) := by
  obtain ⟨_, ad⟩ := args_ok g h e
  have g1 : Ag W B F' H' σ (forget as env) := (forget_ag as g).stepA p (fun x hx => (ad x hx).1) fun a ha j hj z => by
    obtain ⟨_, i, x1, x2, x3⟩ := ad a ha
    obtain ⟨h1, h2⟩ := forget_own as j hj
    by_cases q : j = i
    · subst q; exact h2 _ x1 rfl
    · exact g.inj j i q h1 x3 (by rw [z, x2])
  obtain ⟨g2, o2⟩ := back_ok g g1 h e ho fun j hj => ⟨(forget_own as j hj).1, fun z => (forget_own as j hj).2 _ z rfl⟩
  refine ⟨g2, ⟨p.le, fun a o q n t => p.old a o q (fun z => ?_) t, fun a q n => p.new a q, p.trk, fun i hi => ?_⟩⟩
  · obtain ⟨_, i, x1, x2, x3⟩ := ad a z
    exact n i x3 x2
  · rcases o2 i hi with x | x
    · exact (forget_own as i x).1
    · exact slOf_mem e x
end
end Dl

set_option maxHeartbeats 4000000
/-! DL6: calls, further. -/
namespace Dl
open PySem PySem.W L2 PyProof.Rows
/-- the def at f, called with values in a row, the last ones by the names ks -/
def CalOk (P : Program) (w : World) (K : Frag) (mg : Str → Option Value) (base : Heap) (n : Nat) (f : Value) (ks : List Str) (sp : Sp) : Prop :=
  ∀ (A : Around) (outer : List PySem.Env) (s : Shared) (H : Hp) (us ws : List Value) (vs zs : List V) (Q : VK) (E : XK), Room n A → A.guards = some [] → Env0 P w K mg base A outer s H → Vals vs us → Vals zs ws → ws.length = ks.length → sp (vs ++ zs) H Q E →
    codeAny (model P w) A (.call f ⟨us, ks.zip ws⟩) (CR (L2.CX P w) outer P w H s Q E) s
section
variable {X : Cx} {W : Wd} {B : Bs} {E : XK} {n : Nat} {f : Value} {ks : List Str} {sp : Sp}
theorem run_cal {pins : List (Addr × Obj)} {σ : L2.St} {H : Hp} {s : Shared} {Q : VK} {us ws : List Value} {vs zs : List V} (C : CalOk X.prog X.w X.K X.mg X.base n f ks sp) (hr : Room n X.A) (hg : X.A.guards = some []) (hx : Passes (L2.CX X.prog X.w) X E) (I : Inv X pins σ H s) (r : Vals vs us) (rz : Vals zs ws) (hl : ws.length = ks.length)
    (h : sp (vs ++ zs) H Q E) : wpAny (model X.prog X.w) X.A (call f us (ks.zip ws)) (EP X pins σ Q) X.xe s := by
  refine wpAny_call (codeAny_mono (C X.A X.stack s H us ws vs zs Q E hr hg I.env0 r rz hl h) fun r s' hq => ?_)
  cases r with
  | error e => exact hx pins σ H s e s' I hq
  | ok fl =>
    cases fl with
    | ret u => exact I.after hq
    | next => exact False.elim hq
    | brk => exact False.elim hq
    | cont => exact False.elim hq
end
/-! ### the call's node -/
section
variable {M : Model} {A : Around} {E : Value → Shared → Prop} {s : Shared} {K : Frag} {f : Value} {first : List Value} {pos : Pos} {Q : Value → Shared → Prop}
theorem evalArgs_gen {args : List (Bool × Sem Value)} {kws : List (Option Str × Sem Value)} {R : Args → Shared → Prop} (hl : ∀ x, args ≠ [(true, x)]) (hall : kws.all (·.1.isSome) = true)
    (h : wpAny M A (spliced args) (fun vs s₁ => wpAny M A (evalAll (kws.map (·.2))) (fun ks s₂ => R ⟨vs, (kws.filterMap (·.1)).zip ks⟩ s₂) E s₁) E s) : wpAny M A (evalArgs f true args kws) R E s := by
  have fin : ∀ (k : List Value → Sem Args), (∀ vs s1, wpAny M A (evalAll (kws.map (·.2))) (fun ks s₂ => R ⟨vs, (kws.filterMap (·.1)).zip ks⟩ s₂) E s1 → wpAny M A (k vs) R E s1) → wpAny M A (spliced args >>= k) R E s := fun k hk => wpAny_bind (wpAny_mono h (fun vs s1 h1 => hk vs s1 h1) fun _ _ x => x)
  unfold evalArgs
  match args, hl, fin with
  | [], _, fin =>
    show wpAny M A (spliced _ >>= _) R E s
    refine fin _ fun vs s1 h1 => wpAny_bind (wpAny_pure ?_)
    refine wpAny_holding ?_
    simp only [hall, if_true]
    exact wpAny_bind (wpAny_mono h1 (fun ks s2 h2 => wpAny_bind (wpAny_pure (wpAny_pure h2))) fun _ _ x => x)
  | (false, x) :: r, _, fin =>
    show wpAny M A (spliced _ >>= _) R E s
    refine fin _ fun vs s1 h1 => wpAny_bind (wpAny_pure ?_)
    refine wpAny_holding ?_
    simp only [hall, if_true]
    exact wpAny_bind (wpAny_mono h1 (fun ks s2 h2 => wpAny_bind (wpAny_pure (wpAny_pure h2))) fun _ _ x => x)
  | [(true, x)], hl, _ => exact absurd rfl (hl x)
  | (true, x) :: y :: r, _, fin =>
    show wpAny M A (spliced _ >>= _) R E s
    refine fin _ fun vs s1 h1 => wpAny_bind (wpAny_pure ?_)
    refine wpAny_holding ?_
    simp only [hall, if_true]
    exact wpAny_bind (wpAny_mono h1 (fun ks s2 h2 => wpAny_bind (wpAny_pure (wpAny_pure h2))) fun _ _ x => x)
/-- no star -/
theorem cw_plain {args : List (Bool × Sem Value)} {kws : List (Option Str × Sem Value)} (hk : keepIn K f = true) (hp : args.any (·.1) = false) (hall : kws.all (·.1.isSome) = true)
    (h : wpAny M A (spliced args) (fun vs s₁ => wpAny M A (evalAll (kws.map (·.2))) (fun ks s₂ => K.In s₂.heap ∧ wpAny M A (call f (first ++ vs) ((kws.filterMap (·.1)).zip ks)) Q E s₂) E s₁) E s) : wpAny M A (callWith pos f first args kws) Q E s := by
  refine callWith_of (P := fun h => K.In h) ?_ (fun h X => keeps_K hk h X) (evalArgs_gen (fun x e => ?_) hall h)
  · have e2 : kws.any (·.1.isNone) = false := by
      rw [List.any_eq_false]
      intro x hx
      have := List.all_eq_true.mp hall x hx
      cases q : x.1 with
      | none => rw [q] at this; cases this
      | some v => simp
    rw [hp, e2]; rfl
  · rw [e] at hp; simp at hp
/-- with a star, no keyword -/
theorem cw_star {args : List (Bool × Sem Value)} (hk : keepIn K f = true) (hp : args.any (·.1) = true) (hl : ∀ x, args ≠ [(true, x)])
    (h : wpAny M A (spliced args) (fun vs s₁ => K.In s₁.heap ∧ wpAny M A (call f (first ++ vs)) Q E s₁) E s) : wpAny M A (callWith pos f first args []) Q E s := by
  refine ks_call (P := fun h => K.In h) hp (fun h X => keeps_K hk h X) (evalArgs_gen hl rfl (wpAny_mono h (fun vs s1 h1 => ?_) fun _ _ x => x))
  exact wpAny_evalAll_nil h1
end
end Dl

set_option maxHeartbeats 4000000
/-! DL7: calls by name, of classes, of methods. -/
namespace Dl
open PySem PySem.W L2 PyProof.Rows
def isStar : Expr → Bool
  | .Starred _ _ => true
  | _ => false
theorem starEach_of {e : Expr} {es : List Expr} {env : PySem.Env} (h : isStar e = false) : starEach (e :: es) env = (false, eval e env) :: starEach es env := by
  cases e <;> first | rfl | cases h
theorem backTo_any {pos : Pos} {env : PySem.Env} : ∀ es : List Expr, (backTo pos (starEach es env)).any (·.1) = es.any isStar
  | [] => rfl
  | e :: es => by
    have ih := backTo_any (pos := pos) (env := env) es
    by_cases h : isStar e = true
    · cases e <;> first | cases h | skip
      simp [starEach, backTo, isStar]
    · have h : isStar e = false := by simpa using h
      rw [starEach_of h, List.any_cons, h, Bool.false_or, ← ih]
      rfl
theorem backTo_length {pos : Pos} {env : PySem.Env} : ∀ es : List Expr, (backTo pos (starEach es env)).length = es.length
  | [] => rfl
  | e :: es => by
    have ih := backTo_length (pos := pos) (env := env) es
    have : starEach (e :: es) env = (isStar e, eval (match e with | .Starred x _ => x | x => x) env) :: starEach es env := by cases e <;> rfl
    rw [this]
    unfold backTo at ih ⊢
    simp only [List.map_cons, List.length_cons, ih]
theorem kw_all {pos : Pos} {env : PySem.Env} : ∀ kws : List Keyword, (backToKw pos (keywordEach kws env)).all (·.1.isSome) = kws.all fun k => k.arg.isSome
  | [] => rfl
  | ⟨n, e, p⟩ :: ks => by
    have ih := kw_all (pos := pos) (env := env) ks
    rw [List.all_cons, ← ih]
    rfl
theorem kw_names {pos : Pos} {env : PySem.Env} : ∀ kws : List Keyword, (backToKw pos (keywordEach kws env)).filterMap (·.1) = kws.filterMap fun k => k.arg
  | [] => rfl
  | ⟨n, e, p⟩ :: ks => by
    have ih := kw_names (pos := pos) (env := env) ks
    show ((n, _) :: backToKw pos (keywordEach ks env)).filterMap (·.1) = _
    rw [List.filterMap_cons, List.filterMap_cons, ih]
theorem kw_length {pos : Pos} {env : PySem.Env} : ∀ kws : List Keyword, ((backToKw pos (keywordEach kws env)).map (·.2)).length = kws.length
  | [] => rfl
  | ⟨n, e, p⟩ :: ks => by
    have ih := kw_length (pos := pos) (env := env) ks
    show (((n, _) :: backToKw pos (keywordEach ks env)).map (·.2)).length = _
    rw [List.map_cons, List.length_cons, ih, List.length_cons]
section
variable {X : Cx} {W : Wd} {B : Bs} {E : XK} {a : Expr} {es : List Expr} {kws : List Keyword} {ks : List Str} {f : M D} {pos : Pos}
theorem PK.imp {t t' : TA} (h : PK X kws t) (m : ∀ σ H Q, t' σ H Q → t σ H Q) : PK X kws t' := ⟨fun pos pins s σ H Q I q => h.run pos pins s σ H Q I (m _ _ _ q)⟩
theorem pdk_nil : PK X [] (tV W B E (mArgs [])) := PK.imp pk_nil fun σ H Q h => by
  obtain ⟨F, env, g, h⟩ := h
  exact h F H [] Stp.refl g trivial
theorem pdk_cons {ms : List Am} {nm : Option Str} {kpos : Pos} (ha : PE X a (tD W B E f)) (hr : PK X kws (tV W B E (mArgs ms))) : PK X (⟨nm, a, kpos⟩ :: kws) (tV W B E (mArgs (.e f :: ms))) := PK.imp (pk_cons ha hr) fun σ H Q h => by
  obtain ⟨F, env, g, h⟩ := h
  refine wantE_bind (G := fun F H env r => WantV W B E F H env σ Q r) g h (fun _ _ _ _ _ _ _ l w => WantV.st w l) (fun _ _ _ _ w => w) (fun _ _ _ w => w) fun d env1 F1 H1 v l g1 r w => ?_
  refine wantV_bind (G := fun F H env r => WantV W B E F H env σ Q r) g1 w (fun _ _ _ _ _ _ _ l w => WantV.st w l) (fun _ _ _ _ w => w) (fun _ _ _ w => w) fun ds env2 F2 H2 vs l2 g2 r2 w2 => ?_
  exact w2 F2 H2 (v :: vs) Stp.refl g2 ⟨Rep.le l2.le r, r2⟩
def mApp (k : Nat) (m n : M (List Av)) : M (List Av) := M.bind m fun as => M.bind n fun bs => if bs.length = k then M.ret (as ++ bs) else fun _ => .bad
theorem AvsOk.length {F : Hp} {σ : L2.St} : ∀ {vs : List V} {as : List Av}, AvsOk W F σ vs as → vs.length = as.length
  | [], [], _ => rfl
  | [], _ :: _, h => h.elim
  | _ :: _, [], h => h.elim
  | v :: vs, a :: as, h => by simp [AvsOk.length h.2]
theorem AvsOk.append {F : Hp} {σ : L2.St} : ∀ {us vs : List V} {as bs : List Av}, AvsOk W F σ us as → AvsOk W F σ vs bs → AvsOk W F σ (us ++ vs) (as ++ bs)
  | [], vs, [], bs, _, h => h
  | [], _, _ :: _, _, h, _ => h.elim
  | _ :: _, _, [], _, h, _ => h.elim
  | u :: us, vs, a :: as, bs, h, q => ⟨h.1, AvsOk.append h.2 q⟩
/-- the arguments of a call: wherever f is to be called with them -/
def PCs (X : Cx) (es : List Expr) (kws : List Keyword) (ks : List Str) (t : TA) : Prop :=
  ∀ (pos : Pos) (f : Value) (first : List Value) (pins : List (Addr × Obj)) (s : Shared) (σ : L2.St) (H : Hp) (R : List V → Hp → Prop) (Qf : Value → Shared → Prop), keepIn X.K f = true → Inv X pins σ H s → t σ H R →
    (∀ us ws vs zs s1 H1, Inv X pins σ H1 s1 → Vals vs us → Vals zs ws → ws.length = ks.length → R (vs ++ zs) H1 → wpAny (model X.prog X.w) X.A (call f (first ++ us) (ks.zip ws)) Qf X.xe s1) →
    wpAny (model X.prog X.w) X.A (callWith pos f first (backTo pos (starEach es X.env)) (backToKw pos (keywordEach kws X.env))) Qf X.xe s
theorem PCs.imp {t t' : TA} (h : PCs X es kws ks t) (m : ∀ σ H Q, t' σ H Q → t σ H Q) : PCs X es kws ks t' := fun pos f first pins s σ H R Qf hk I q k => h pos f first pins s σ H R Qf hk I (m _ _ _ q) k
theorem pcs_plain {t u : TA} (h1 : PA X es t) (h2 : PK X kws u) (hs : es.any isStar = false) (hall : (kws.all fun k => k.arg.isSome) = true) (hks : (kws.filterMap fun k => k.arg) = ks) : PCs X es kws ks (fun σ H R => t σ H fun vs H1 => u σ H1 fun zs H2 => zs.length = ks.length ∧ R (vs ++ zs) H2) := by
  intro pos f first pins s σ H R Qf hk I h k
  refine cw_plain (K := X.K) hk (by rw [backTo_any]; exact hs) (by rw [kw_all]; exact hall) ?_
  refine thn (h1.run pos pins s σ H _ I h) fun us s1 ⟨vs, H1, I1, r1, q1⟩ => ?_
  refine thn (h2.run pos pins s1 σ H1 _ I1 q1) fun ws s2 ⟨zs, H2, I2, r2, hl, q2⟩ => ⟨I2.kIn, ?_⟩
  rw [kw_names, hks]
  exact k us ws vs zs s2 H2 I2 r1 r2 (by rw [← r2.length]; exact hl) q2
theorem pds_plain {m n : M (List Av)} (h1 : PA X es (tV W B E m)) (h2 : PK X kws (tV W B E n)) (hs : es.any isStar = false) (hall : (kws.all fun k => k.arg.isSome) = true) (hks : (kws.filterMap fun k => k.arg) = ks) : PCs X es kws ks (tV W B E (mApp ks.length m n)) :=
  PCs.imp (pcs_plain h1 h2 hs hall hks) fun σ H Q h => by
    obtain ⟨F, env, g, h⟩ := h
    refine wantV_bind (G := fun F H env r => WantV W B E F H env σ Q r) g h (fun _ _ _ _ _ _ _ l w => WantV.st w l) (fun _ _ _ _ w => w) (fun _ _ _ w => w) fun as env1 F1 H1 vs l g1 r w => ?_
    refine wantV_bind (G := fun F H env r => WantV W B E F H env σ Q r) g1 w (fun _ _ _ _ _ _ _ l w => WantV.st w l) (fun _ _ _ _ w => w) (fun _ _ _ w => w) fun bs env2 F2 H2 zs l2 g2 r2 w2 => ?_
    split at w2
    · rename_i hl
      exact ⟨by rw [r2.length]; exact hl, w2 F2 H2 _ Stp.refl g2 (AvsOk.append (r.le l2.le) r2)⟩
    · exact w2.elim
theorem pcs_star {t : TA} (h1 : PA X es t) (hs : es.any isStar = true) (hl : 2 ≤ es.length) : PCs X es [] [] t := by
  intro pos f first pins s σ H R Qf hk I h k
  refine cw_star (K := X.K) hk (by rw [backTo_any]; exact hs) (fun x e => ?_) ?_
  · have := backTo_length (pos := pos) (env := X.env) es
    rw [e] at this
    simp at this
    omega
  · refine thn (h1.run pos pins s σ H _ I h) fun us s1 ⟨vs, H1, I1, r1, q1⟩ => ⟨I1.kIn, ?_⟩
    have := k us [] vs [] s1 H1 I1 r1 .nil rfl (by rw [List.append_nil]; exact q1)
    exact this
theorem pcs_lone {p : Pos} (ha : PE X a (tD W B E f)) : PCs X [.Starred a p] [] [] (tV W B E (mArgs [.s f])) := by
  intro pos g first pins s σ H R Qf hk I h k
  refine callWith_S (K := X.K) (h₀ := X.base) (p := p) I.ok.mod.kin hk ?_
  obtain ⟨F, env, ag, h⟩ := h
  have key : tD W B E f σ H (fun v H1 => ∃ q xs, v = .ref q ∧ (SqT X.K H1 q xs ∨ SqL X.K H1 q xs) ∧ R xs H1) := by
    refine wantE_bind (G := fun F H env r => WantV W B E F H env σ R r) ag h (fun _ _ _ _ _ _ _ l w => WantV.st w l) (fun _ _ _ _ w => w) (fun _ _ _ w => w) fun d env1 F1 H1 v l g1 r w => ?_
    cases e : itemsD d with
    | none => simp only [e] at w; exact w.elim
    | some ds =>
      simp only [e] at w
      obtain ⟨q, xs, ev, hx, rs⟩ := items_of (K := X.K) g1.sub r e
      have w : WantV W B E F1 H1 env1 σ R (.ok (ds.map .p ++ [], env1)) := w
      have := w F1 H1 (xs ++ []) Stp.refl g1 (AvsOk.app rs trivial)
      rw [List.append_nil] at this
      exact ⟨q, xs, ev, hx, this⟩
  refine thn (ha.run pins s σ H _ I key) fun v s1 ⟨y, H1, I1, ry, q, xs, ey, hx, hR⟩ => ?_
  subst ey
  obtain rfl : v = Value.ref q := ry
  refine StX.star_any I1 hx fun us s2 I2 rv => ⟨I2.kIn, ?_⟩
  exact k us [] xs [] s2 H1 I2 rv .nil rfl (by rw [List.append_nil]; exact hR)
/-! ### what a callee's promise says of plain data -/
/-- the end of a call, plain -/
theorem call_end {g : List Sl → RF} {F H : Hp} {env : Ev} {σ : L2.St} {vs : List V} {as : List Av} {Q : VK} (ag : Ag W B F H σ env) (h : AvsOk W F σ vs as)
    (w : Want W B E F H env σ Q (match slOf env as with
      | some args => (match g args with
        | .ok (d, outs) => .ok (d, putO as outs env)
        | .exc x => .exc x
        | .bad => .bad)
      | none => .bad)) : spT W false g vs H Q E := by
  cases e : slOf env as with
  | none => rw [e] at w; exact w.elim
  | some args =>
    rw [e] at w
    obtain ⟨ao, ad⟩ := args_ok ag h e
    refine ⟨F, args, ag.sub, ag.tabs, ao, ?_⟩
    cases q : g args with
    | ok p =>
      obtain ⟨d, outs⟩ := p
      simp only [q] at w
      intro F' H' v p ho r
      obtain ⟨g2, st⟩ := call_back (A := adr vs args) ag h e p ho
      exact w F' H' v st g2 r
    | exc x =>
      simp only [q] at w
      exact fun F' H' dd p xr => w F' H' dd (ag.bs.trans p fun a ha => (ad a ha).1) xr
    | bad => simp only [q] at w; exact w.elim
theorem call_endO {g : List Sl → RF} {F H : Hp} {env : Ev} {σ : L2.St} {vs : List V} {as : List Av} {Q : VK} (ag : Ag W B F H σ env) (h : AvsOk W F σ vs as)
    (w : WantO W B E F H env σ Q (match slOf env as with
      | some args => (match g args with
        | .ok (d, outs) => .ok (d, putO as outs env)
        | .exc x => .exc x
        | .bad => .bad)
      | none => .bad)) : spT W true g vs H Q E := by
  cases e : slOf env as with
  | none => rw [e] at w; exact w.elim
  | some args =>
    rw [e] at w
    obtain ⟨ao, ad⟩ := args_ok ag h e
    refine ⟨F, args, ag.sub, ag.tabs, ao, ?_⟩
    cases q : g args with
    | ok p =>
      obtain ⟨d, outs⟩ := p
      simp only [q] at w
      intro F' H' v p ho r
      obtain ⟨g2, st⟩ := call_back (A := adr vs args) ag h e p ho
      obtain ⟨a, rfl, n0, fa, ow⟩ := r
      refine w F' H' a st g2 (fun i hi z => ?_) n0 fa ow
      have ho' := st.ow i hi
      exact ag.nw n0 i ho' z
    | exc x =>
      simp only [q] at w
      exact fun F' H' dd p xr => w F' H' dd (ag.bs.trans p fun a ha => (ad a ha).1) xr
    | bad => simp only [q] at w; exact w.elim
end
end Dl

set_option maxHeartbeats 4000000
/-! DL8: defs, classes, methods called; fields. -/
namespace Dl
open PySem PySem.W L2 PyProof.Rows
def plainBase : Expr → Bool
  | .Call (.Name _ _) [] [] _ => false
  | _ => true
theorem attributeBase_of {o : Expr} {m : Str} {env : PySem.Env} {whole : Sem Value} (h : plainBase o = true) : attributeBase o m env whole = whole := by
  unfold attributeBase
  split
  · cases h
  · rfl
section
variable {X : Cx} {W : Wd} {B : Bs} {E : XK} {a o : Expr} {es : List Expr} {kws : List Keyword} {ks : List Str} {f : M D} {pos p apos : Pos} {n : Nat} {g : List Sl → RF} {m : M (List Av)} {x : Str}
theorem tCall_of {σ : L2.St} {H : Hp} {Q : VK} (h : tD W B E (mCall g m) σ H Q) : tV W B E m σ H (fun vs H1 => spT W false g vs H1 Q E) := by
  obtain ⟨F, env, ag, h⟩ := h
  exact wantV_bind (G := fun F H env r => Want W B E F H env σ Q r) ag h (fun _ _ _ _ _ _ _ l w => Want.st w l) (fun _ _ _ _ w => w) (fun _ _ _ w => w) fun as env1 F1 H1 vs l g1 r w => call_end g1 r w
theorem tCall_ofO {σ : L2.St} {H : Hp} {Q : VK} (h : tO W B E (mCall g m) σ H Q) : tV W B E m σ H (fun vs H1 => spT W true g vs H1 Q E) := by
  obtain ⟨F, env, ag, h⟩ := h
  exact wantV_bind (G := fun F H env r => WantO W B E F H env σ Q r) ag h (fun _ _ _ _ _ _ _ l w => WantO.st w l) (fun _ _ _ _ w => w) (fun _ _ _ w => w) fun as env1 F1 H1 vs l g1 r w => call_endO g1 r w
/-- f(..) of a def of the module -/
theorem pd_call {fv : Value} (C : CalOk X.prog X.w X.K X.mg X.base n fv ks (spT W false g)) (hr : Room n X.A) (hg : X.A.guards = some []) (hx : Passes (L2.CX X.prog X.w) X E) (hgl : Gl X x) (hm : X.mg x = some fv) (hk : keepIn X.K fv = true) (hdb : (x == ("__debug__" : Str)) = false)
    (ha : PCs X es kws ks (tV W B E m)) : PE X (.Call (.Name x p) es kws pos) (tD W B E (mCall g m)) := by
  refine ⟨fun pins s σ H Q I h => ?_⟩
  refine PySem.wpAny_Call_Name_kw (ld_glob I hgl hm ?_ hdb)
  exact ha pos fv [] pins s σ H _ _ hk I (tCall_of h) fun us ws vs zs s1 H1 I1 r1 r2 hl q => run_cal C hr hg hx I1 r1 r2 hl q
theorem po_call {fv : Value} (C : CalOk X.prog X.w X.K X.mg X.base n fv ks (spT W true g)) (hr : Room n X.A) (hg : X.A.guards = some []) (hx : Passes (L2.CX X.prog X.w) X E) (hgl : Gl X x) (hm : X.mg x = some fv) (hk : keepIn X.K fv = true) (hdb : (x == ("__debug__" : Str)) = false)
    (ha : PCs X es kws ks (tV W B E m)) : PE X (.Call (.Name x p) es kws pos) (tO W B E (mCall g m)) := by
  refine ⟨fun pins s σ H Q I h => ?_⟩
  refine PySem.wpAny_Call_Name_kw (ld_glob I hgl hm ?_ hdb)
  exact ha pos fv [] pins s σ H _ _ hk I (tCall_ofO h) fun us ws vs zs s1 H1 I1 r1 r2 hl q => run_cal C hr hg hx I1 r1 r2 hl q
/-! ### a new instance -/
def mNew (c : Nat) (g : List Sl → RF) (m : M (List Av)) : M D := M.bind m fun as env => match slOf env as with
  | some args => (match g (.ow (.ins c [] []) :: args) with
    | .ok (.non, self :: outs) => .ok (self, putO as outs env)
    | .exc x => .exc x
    | _ => .bad)
  | none => .bad
theorem run_new {C fi : Addr} {sp : Sp} {pins : List (Addr × Obj)} {σ : L2.St} {H : Hp} {s : Shared} {Q : VK} {us ws : List Value} {vs zs : List V} (M : Mk X.K C fi) (F : CalOk X.prog X.w X.K X.mg X.base n (.ref fi) ks sp) (hr : Room (n + 1) X.A) (hg : X.A.guards = some []) (hx : Passes (L2.CX X.prog X.w) X E)
    (I : Inv X pins σ H s) (r : Vals vs us) (rz : Vals zs ws) (hl : ws.length = ks.length)
    (h : ∀ x dx, H x = Option.none → H dx = Option.none → dx ≠ x → sp (V.ref x :: (vs ++ zs)) (upd (upd H dx (.own x)) x (.ins C dx [])) (fun v H2 => v = .non ∧ Q (.ref x) H2) E) :
    wpAny (model X.prog X.w) X.A (call (.ref C) us (ks.zip ws)) (EP X pins σ Q) X.xe s := by
  have hq := h (s.heap.objs.size + 1) s.heap.objs.size (I.hok.fresh (Nat.le_succ _)) (I.hok.fresh (Nat.le_refl _)) (Nat.ne_of_lt (Nat.lt_succ_self _))
  have I2 := Inv.made (C := C) I
  have r2 : Vals (V.ref (s.heap.objs.size + 1) :: vs) (Value.ref (s.heap.objs.size + 1) :: us) := .cons rfl r
  refine wpAny_call (make_map (f := fi) I.kIn M.makes M.init (beq_iff_eq.mp M.fn) (codeAny_mono (F _ X.stack _ _ (Value.ref (s.heap.objs.size + 1) :: us) ws _ zs _ E (hr.make C us (ks.zip ws)) ?_ (I2.env0.make C us (ks.zip ws)) r2 rz hl hq) fun r s' hq' => ?_))
  · first | exact hg | (simpa [Around.under, Code.isGuard, guardIds] using hg)
  cases r with
  | error e => exact hx pins σ _ _ e s' I2 hq'
  | ok fl =>
    cases fl with
    | ret u =>
      obtain ⟨v, H', I3, rv, ev, q3⟩ := I2.after hq'
      subst ev
      exact ⟨rv, ⟨V.ref (s.heap.objs.size + 1), H', I3, rfl, q3⟩⟩
    | next => exact False.elim hq'
    | brk => exact False.elim hq'
    | cont => exact False.elim hq'
theorem new_end {c : Nat} {F H : Hp} {env : Ev} {σ : L2.St} {vs : List V} {as : List Av} {Q : VK} (cc : Wp.InsK W.K (W.cl c)) (ag : Ag W B F H σ env) (h : AvsOk W F σ vs as)
    (w : WantO W B E F H env σ Q (match slOf env as with
      | some args => (match g (.ow (.ins c [] []) :: args) with
        | .ok (.non, self :: outs) => .ok (self, putO as outs env)
        | .exc x => .exc x
        | _ => .bad)
      | none => .bad)) : ∀ x dx, H x = Option.none → H dx = Option.none → dx ≠ x → spT W false g (V.ref x :: vs) (upd (upd H dx (.own x)) x (.ins (W.cl c) dx [])) (fun v H2 => v = .non ∧ Q (.ref x) H2) E := by
  intro x dx hx hdx ne
  cases e : slOf env as with
  | none => rw [e] at w; exact w.elim
  | some args =>
    rw [e] at w
    have st1 := PStep.al (o := .own x) ag.sub ag.tabs hdx
    have hx1 : upd H dx (.own x) x = none := by rw [upd_ne (Ne.symm ne)]; exact hx
    have st2 := PStep.al (o := .ins (W.cl c) dx []) (ag.step st1).sub (ag.step st1).tabs hx1
    have st := st1.trans0 st2
    have ag2 : Ag W B F (upd (upd H dx (.own x)) x (.ins (W.cl c) dx [])) σ env := (ag.step st1).step st2
    have fx : F x = none := by
      cases q : F x with
      | none => rfl
      | some o => rw [ag.sub _ _ q] at hx; cases hx
    obtain ⟨ao, ad⟩ := args_ok ag2 h e
    have nx : x ∉ adr vs args := fun z => by
      obtain ⟨_, j, _, x3, x4⟩ := ad x z
      exact ag.nw hx j x4 x3
    refine ⟨F, .ow (.ins c [] []) :: args, ag2.sub, ag2.tabs, ⟨⟨x, rfl, fx, ⟨dx, [], upd_same, ⟨cc, by simp⟩, rfl, rfl⟩, nx⟩, ao⟩, ?_⟩
    have ea : adr (.ref x :: vs) (.ow (.ins c [] []) :: args) = x :: adr vs args := rfl
    rw [ea]
    cases q : g (.ow (.ins c [] []) :: args) with
    | ok p =>
      obtain ⟨d, outs⟩ := p
      simp only [q] at w
      intro F' H' v p ho r
      cases d with
      | non =>
        cases outs with
        | nil => exact w.elim
        | cons self outs =>
          obtain rfl : v = .non := r
          obtain ⟨f1, o1, ho⟩ := ho
          -- the step without x: x is new
          have p' : PStep W (adr vs args) F H F' H' := ⟨p.le, p.sub, fun a o h n t => p.old a o (st.old a o h (by simp) t) (fun m => (List.mem_cons.mp m).elim (fun e => by rw [e, hx] at h; cases h) n) t, fun a h => p.new a (st.trk a h), fun a h => p.trk a (st.trk a h), p.tabs⟩
          obtain ⟨g2, st3⟩ := call_back (A := adr vs args) ag h e p' ho
          exact ⟨rfl, w F' H' x st3 g2 (fun i hi z => ag.nw hx i (st3.ow i hi) z) hx f1 o1⟩
      | _ => exact w.elim
    | exc x' =>
      simp only [q] at w
      intro F' H' dd p xr
      refine w F' H' dd ?_ xr
      refine (ag.bs.trans0 st).trans p fun a ha => ?_
      rcases List.mem_cons.mp ha with rfl | ha
      · exact .inr (ag.bs.free hx)
      · exact (ad a ha).1
    | bad => simp only [q] at w; exact w.elim
/-- C(..) -/
theorem po_new {c : Nat} {fi : Addr} (cc : Wp.InsK W.K (W.cl c)) (M : Mk X.K (W.cl c) fi) (C : CalOk X.prog X.w X.K X.mg X.base n (.ref fi) ks (spT W false g)) (hr : Room (n + 1) X.A) (hg : X.A.guards = some []) (hx : Passes (L2.CX X.prog X.w) X E) (hgl : Gl X x) (hm : X.mg x = some (.ref (W.cl c))) (hdb : (x == ("__debug__" : Str)) = false)
    (ha : PCs X es kws ks (tV W B E m)) : PE X (.Call (.Name x p) es kws pos) (tO W B E (mNew c g m)) := by
  refine ⟨fun pins s σ H Q I h => ?_⟩
  refine PySem.wpAny_Call_Name_kw (ld_glob I hgl hm ?_ hdb)
  have h1 : tV W B E m σ H (fun vs H1 => ∀ x dx, H1 x = Option.none → H1 dx = Option.none → dx ≠ x → spT W false g (V.ref x :: vs) (upd (upd H1 dx (.own x)) x (.ins (W.cl c) dx [])) (fun v H2 => v = .non ∧ Q (.ref x) H2) E) := by
    obtain ⟨F, env, ag, h⟩ := h
    exact wantV_bind (G := fun F H env r => WantO W B E F H env σ Q r) ag h (fun _ _ _ _ _ _ _ l w => WantO.st w l) (fun _ _ _ _ w => w) (fun _ _ _ w => w) fun as env1 F1 H1 vs l g1 r w => new_end cc g1 r w
  exact ha pos _ [] pins s σ H _ _ M.kp I h1 fun us ws vs zs s1 H1 I1 r1 r2 hl q => run_new M C hr hg hx I1 r1 r2 hl q
/-! ### fields -/
theorem key_mem {k : Str} {v : V} : ∀ {l : List (Str × V)}, l.lookup k = some v → k ∈ l.map (·.1)
  | [], h => by simp at h
  | (x, u) :: l, h => by
    simp only [List.lookup] at h
    split at h
    · rename_i q
      have := eq_of_beq q
      subst this
      exact List.mem_map.mpr ⟨_, List.mem_cons_self, rfl⟩
    · have := key_mem h
      simp only [List.map_cons]
      exact List.mem_cons_of_mem _ this
/-- the field f among the fields ns -/
def lookN (f : Nat) : List Nat → List D → Option D
  | n :: ns, d :: ds => if n = f then some d else lookN f ns ds
  | _, _ => none
def putN (f : Nat) (x : D) : List Nat → List D → List Nat × List D
  | n :: ns, d :: ds => if n = f then (n :: ns, x :: ds) else ((n :: (putN f x ns ds).1), (d :: (putN f x ns ds).2))
  | ns, ds => (ns ++ [f], ds ++ [x])
theorem lookN_ok {F : Hp} (inj : ∀ a b, W.fl a = W.fl b → a = b) {f : Nat} {d : D} : ∀ {ns : List Nat} {ds : List D} {fvs : List (Str × V)}, fvs.map (·.1) = ns.map W.fl → Reps W F (fvs.map (·.2)) ds → lookN f ns ds = some d → ∃ v, fvs.lookup (W.fl f) = some v ∧ Rep W F v d
  | [], _, _, _, _, e => by simp [lookN] at e
  | n :: ns, [], _, _, _, e => by simp [lookN] at e
  | n :: ns, d' :: ds, [], h, _, _ => by simp at h
  | n :: ns, d' :: ds, (x, v) :: fvs, h, r, e => by
    simp only [List.map_cons, List.cons.injEq] at h
    obtain ⟨h1, h2⟩ := h
    obtain ⟨v', t, ev, r1, r2⟩ := r
    simp only [List.map_cons, List.cons.injEq] at ev
    obtain ⟨rfl, rfl⟩ := ev
    simp only [lookN] at e
    subst h1
    split at e
    · rename_i hn
      subst hn
      cases e
      exact ⟨v, by simp [List.lookup], r1⟩
    · rename_i hn
      obtain ⟨u, hu, ru⟩ := lookN_ok inj h2 r2 e
      refine ⟨u, ?_, ru⟩
      have : (W.fl f == W.fl n) = false := beq_eq_false_iff_ne.mpr fun z => hn (inj _ _ z).symm
      simp only [List.lookup, this]
      exact hu
theorem putN_ok {F : Hp} (inj : ∀ a b, W.fl a = W.fl b → a = b) {f : Nat} {d : D} {v : V} (rv : Rep W F v d) : ∀ {ns : List Nat} {ds : List D} {fvs : List (Str × V)}, fvs.map (·.1) = ns.map W.fl → Reps W F (fvs.map (·.2)) ds → ((putF (W.fl f) v fvs).map (·.1) = (putN f d ns ds).1.map W.fl ∧ Reps W F ((putF (W.fl f) v fvs).map (·.2)) (putN f d ns ds).2 ∧ ∀ n ∈ (putN f d ns ds).1, n = f ∨ n ∈ ns)
  | [], ds, fvs, h, r => by
    have e : fvs = [] := by simpa using h
    subst e
    cases ds with
    | nil => exact ⟨rfl, Reps.cons rv Reps.nil, fun n hn => by simp [putN] at hn; exact .inl hn⟩
    | cons d' ds => obtain ⟨_, _, ev, _⟩ := r; simp at ev
  | n :: ns, [], fvs, h, r => by
    have e : fvs = [] := by simpa using (show fvs.map (·.2) = [] from r)
    subst e
    simp at h
  | n :: ns, d' :: ds, [], h, _ => by simp at h
  | n :: ns, d' :: ds, (x, u) :: fvs, h, r => by
    simp only [List.map_cons, List.cons.injEq] at h
    obtain ⟨h1, h2⟩ := h
    obtain ⟨v', t, ev, r1, r2⟩ := r
    simp only [List.map_cons, List.cons.injEq] at ev
    obtain ⟨rfl, rfl⟩ := ev
    subst h1
    obtain ⟨i1, i2, i3⟩ := putN_ok inj rv h2 r2
    by_cases hn : n = f
    · subst hn
      simp only [putF, putN, if_true]
      refine ⟨by simp [h2], Reps.cons rv r2, fun m hm => .inr hm⟩
    · have hx : ¬ W.fl n = W.fl f := fun z => hn (inj _ _ z)
      simp only [putF, putN, if_neg hx, if_neg hn]
      refine ⟨by simp [i1], Reps.cons r1 i2, fun m hm => ?_⟩
      rcases List.mem_cons.mp hm with rfl | hm
      · exact .inr List.mem_cons_self
      · exact (i3 m hm).imp id fun z => List.mem_cons_of_mem _ z
def fldD (f : Nat) : D → R D
  | .ins _ ns ds => R.ofO (lookN f ns ds)
  | _ => .bad
/-- e.f -/
theorem pd_fld {fm : M D} {fi : Nat} (hK : X.K = W.K) (inj : ∀ a b, W.fl a = W.fl b → a = b) (he : PE X o (tD W B E fm)) (hb : plainBase o = true) : PE X (.Attribute o (W.fl fi) pos) (tD W B E (m1 (fldD fi) fm)) := PE.imp (Wp.pe_fldU (K := W.K) he hK (attributeBase_of hb)) fun σ H Q h => by
  obtain ⟨F, env, g, h⟩ := h
  refine want_bind g h fun d env1 F1 H1 v l g1 r w => ?_
  have w := want_lift g1 w
  cases d with
  | ins c ns ds =>
    obtain ⟨p, dx, fvs, rfl, hp, ci, hn, rs⟩ := r
    cases e : lookN fi ns ds with
    | none => simp only [fldD, e, R.ofO] at w; exact w.elim
    | some x =>
      simp only [fldD, e, R.ofO] at w
      obtain ⟨u, hu, ru⟩ := lookN_ok inj hn rs e
      have nm : NoAttr W.K (W.cl c) (W.fl fi) := by
        have : W.fl fi ∈ fvs.map (·.1) := key_mem hu
        rw [hn] at this
        obtain ⟨n, hn1, hn2⟩ := List.mem_map.mp this
        rw [← hn2]
        exact ci.2 n hn1
      show Wp.rFld W.K (W.fl fi) (.ref p) H1 Q
      unfold Wp.rFld
      simp only [g1.sub _ _ hp, hu]
      exact ⟨ci.1.cl, nm, w F1 H1 u g1.here ru⟩
  | _ => exact w.elim
end
end Dl

set_option maxHeartbeats 4000000
/-! DL9: fields of what a slot owns; methods; properties. -/
namespace Dl
open PySem PySem.W L2 PyProof.Rows
section
variable {X : Cx} {W : Wd} {B : Bs} {E : XK} {a o e : Expr} {es : List Expr} {kws : List Keyword} {ks : List Str} {f : M D} {pos p apos : Pos} {n : Nat} {m : M (List Av)} {x : Str} {ob : Bool}
/-- the content of slot i, if it owns something -/
def ownAt (env : Ev) (i : Nat) : Option D := match env[i]? with
  | some (.ow d) => some d
  | some (.pa _ d) => some d
  | _ => none
/-- .. set -/
def setAt (env : Ev) (i : Nat) (d : D) : Ev := match env[i]? with
  | some (.ow _) => env.set i (.ow d)
  | some (.pa k _) => env.set i (.pa k d)
  | _ => env
theorem own_at {F H : Hp} {σ : L2.St} {env : Ev} {i : Nat} {d : D} (g : Ag W B F H σ env) (h : ownAt env i = some d) : ∃ a, σ[i]? = some (some (.ref a)) ∧ F a = none ∧ Own W F H a d ∧ isOwn env[i]? ∧ (a ∈ B.A ∨ B.H a = none) := by
  unfold ownAt at h
  split at h
  · rename_i d' e
    cases h
    have hs : σ[i]? = some (σ[i]'(by rw [g.len]; exact get_lt e)) := List.getElem?_eq_getElem _
    obtain ⟨a, ea, n0, fa, ow⟩ := g.sl i _ _ hs e
    exact ⟨a, by rw [hs, ea], fa, ow, by rw [e]; trivial, .inr n0⟩
  · rename_i k d' e
    cases h
    have hs : σ[i]? = some (σ[i]'(by rw [g.len]; exact get_lt e)) := List.getElem?_eq_getElem _
    obtain ⟨a, ea, n0, fa, ow⟩ := g.sl i _ _ hs e
    exact ⟨a, by rw [hs, ea], fa, ow, by rw [e]; trivial, .inl (List.mem_of_getElem? n0)⟩
  · cases h
theorem isOwn_setAt {env : Ev} {i : Nat} {d : D} {j : Nat} : isOwn (setAt env i d)[j]? ↔ isOwn env[j]? := by
  unfold setAt
  split
  · rename_i d' e
    by_cases z : j = i
    · subst z
      rw [List.getElem?_set_self (get_lt e), e]
      exact ⟨fun _ => trivial, fun _ => trivial⟩
    · rw [List.getElem?_set_ne (Ne.symm z)]
  · rename_i k d' e
    by_cases z : j = i
    · subst z
      rw [List.getElem?_set_self (get_lt e), e]
      exact ⟨fun _ => trivial, fun _ => trivial⟩
    · rw [List.getElem?_set_ne (Ne.symm z)]
  · exact Iff.rfl
/-- what slot i owns is written -/
theorem Ag.write {F H : Hp} {σ : L2.St} {env : Ev} {i : Nat} {a : Addr} {o : HO} {d d' : D} (g : Ag W B F H σ env) (hd : ownAt env i = some d) (ha : σ[i]? = some (some (.ref a))) (nt : NotT o) (ow : Own W F (upd H a o) a d') : Ag W B F (upd H a o) σ (setAt env i d') ∧ Stp σ F H env F (upd H a o) (setAt env i d') := by
  obtain ⟨a', ea, fa, ow0, io, hb⟩ := own_at g hd
  rw [ha] at ea; cases ea
  obtain ⟨o0, ho0, _⟩ := ow0.trk
  have p : PStep W [a] F H F (upd H a o) := {
    le := Le.refl _
    sub := fun b x h => by
      have : b ≠ a := fun z => by rw [z, fa] at h; cases h
      rw [upd_ne this]; exact g.sub b x h
    old := fun b x h n t => by rw [upd_ne (by simpa using n)]; exact h
    new := fun _ _ => rfl
    trk := fun b h => by
      by_cases z : b = a
      · rw [z, upd_same]; simp
      · rw [upd_ne z]; exact h
    tabs := by
      refine ⟨?_, g.tabs.nt⟩
      intro q hq
      obtain ⟨ps, h1, h2, h3⟩ := g.tabs.tb q hq
      have ne : ∀ b y, H b = some y → y ≠ o0 → b ≠ a := fun b y h n z => n (by rw [z, ho0] at h; cases h; rfl)
      have nt0 : NotT o0 := by assumption
      refine ⟨ps, by rw [upd_ne (ne _ _ h1 (fun z => nt0 _ z.symm))]; exact h1, h2, fun pos cv hc => ?_⟩
      obtain ⟨c, rfl, hcd⟩ := h3 pos cv hc
      refine ⟨c, rfl, ?_⟩
      rw [upd_ne (ne _ _ hcd ?_)]
      · exact hcd
      · intro z
        have := ow0
        cases d with
        | lst ds => obtain ⟨vs, q, _⟩ := this; rw [ho0] at q; cases q; unfold LamX.CodeO at z; cases z
        | dct ks ds => obtain ⟨vs, q, _⟩ := this; rw [ho0] at q; cases q; unfold LamX.CodeO at z; cases z
        | ins c ns ds => obtain ⟨dx, vs, q, _⟩ := this; rw [ho0] at q; cases q; unfold LamX.CodeO at z; cases z
        | _ => exact this.elim }
  have g1 : Ag W B F (upd H a o) σ (env.set i .no) := (g.weak).stepA p (fun x hx => by rw [List.mem_singleton.mp hx]; exact hb) fun b hb j hj z => by
    rw [List.mem_singleton.mp hb] at z
    by_cases q : j = i
    · subst q
      by_cases hl : j < env.length
      · rw [List.getElem?_set_self hl] at hj; exact hj
      · rw [List.getElem?_eq_none_iff.mpr (by simp; omega)] at hj; exact hj
    · rw [List.getElem?_set_ne (Ne.symm q)] at hj
      exact g.inj j i q hj io (by rw [z, ha])
  have nw : ∀ j, j ≠ i → isOwn (env.set i Sl.no)[j]? → σ[j]? ≠ some (some (.ref a)) := fun j q hj z => by
    rw [List.getElem?_set_ne (Ne.symm q)] at hj
    exact g.inj j i q hj io (by rw [z, ha])
  have stp : ∀ env', (∀ j, isOwn env'[j]? → isOwn env[j]?) → Stp σ F H env F (upd H a o) env' := fun env' h => ⟨Le.refl _, fun b x q n _ => by
    have : b ≠ a := fun z => n i io (by rw [ha, z])
    rw [upd_ne this]; exact q, fun _ _ _ => rfl, p.trk, h⟩
  refine ⟨?_, stp _ fun j h => isOwn_setAt.mp h⟩
  unfold ownAt at hd
  unfold setAt
  split at hd
  · rename_i d0 e
    obtain ⟨a', ea, n0, _⟩ := g.sl i _ _ ha e
    cases ea
    have := g1.again (s := .ow d') ha ⟨a, rfl, n0, fa, ow⟩ nw
    rw [List.set_set] at this
    exact this
  · rename_i k d0 e
    obtain ⟨a', ea, n0, _⟩ := g.sl i _ _ ha e
    cases ea
    have := g1.again (s := .pa k d') ha ⟨a, rfl, n0, fa, ow⟩ nw
    rw [List.set_set] at this
    exact this
  · cases hd
/-- name.f, the name's slot owns the instance -/
def mFldO (i f : Nat) : M D := fun env => match ownAt env i with
  | some (.ins _ ns ds) => (match lookN f ns ds with
    | some d => .ok (d, env)
    | none => .bad)
  | _ => .bad
theorem pd_fldO {i fi : Nat} (hK : X.K = W.K) (inj : ∀ a b, W.fl a = W.fl b → a = b) (hN : X.N[i]? = some x) (hv : Vis X.env.scope x) (hd : (x == ("__debug__" : Str)) = false) (hcd : (x == ("__classdict__" : Str)) = false) : PE X (.Attribute (.Name x p) (W.fl fi) pos) (tD W B E (mFldO i fi)) :=
  PE.imp (Wp.pe_fldU (K := W.K) (pe_var hN hv hd hcd) hK (attributeBase_of rfl)) fun σ H Q h => by
    obtain ⟨F, env, g, h⟩ := h
    unfold mFldO at h
    split at h
    · rename_i c ns ds e
      obtain ⟨a, ea, fa, ow, _⟩ := own_at g e
      obtain ⟨dx, fvs, ha, ci, hn, rs⟩ := ow
      split at h
      · rename_i d q
        obtain ⟨u, hu, ru⟩ := lookN_ok inj hn rs q
        have nm : NoAttr W.K (W.cl c) (W.fl fi) := by
          have : W.fl fi ∈ fvs.map (·.1) := key_mem hu
          rw [hn] at this
          obtain ⟨n, hn1, hn2⟩ := List.mem_map.mp this
          rw [← hn2]
          exact ci.2 n hn1
        refine ⟨_, ea, ?_⟩
        show Wp.rFld W.K (W.fl fi) (.ref a) H Q
        unfold Wp.rFld
        simp only [ha, hu]
        exact ⟨ci.1.cl, nm, h F H u Stp.refl g ru⟩
      · exact h.elim
    · exact h.elim
/-- name.f = e; fo: the classes for which the field may be set -/
def sSetF (i f : Nat) (fo : Nat → Bool) (m : M D) : MS := fun env => (m env).bind fun p => match ownAt p.2 i with
  | some (.ins c ns ds) => if fo c = true ∧ ns.length < 1000 then .ok (.nx, setAt p.2 i (.ins c (putN f p.1 ns ds).1 (putN f p.1 ns ds).2)) else .bad
  | _ => .bad
theorem pds_setF {i fi : Nat} {fo : Nat → Bool} {fm : M D} (hK : X.K = W.K) (inj : ∀ a b, W.fl a = W.fl b → a = b) (hfo : ∀ c, fo c = true → NoAttr W.K (W.cl c) (W.fl fi)) (hN : X.N[i]? = some x) (hv : Vis X.env.scope x) (hd : (x == ("__debug__" : Str)) = false) (hcd : (x == ("__classdict__" : Str)) = false)
    (he : PE X e (tD W B E fm)) (hs : swapsWith e (some (.Attribute (.Name x p) (W.fl fi) apos)) pos.line X.env = pure false) : PS X (.Assign [.Attribute (.Name x p) (W.fl fi) apos] e pos) (tS W B E ob (sSetF i fi fo fm)) :=
  PS.imp (Wp.ps_fldU (K := W.K) (pe_var hN hv hd hcd) he hK hs) fun Z σ H h => by
    obtain ⟨F, env, g, h⟩ := h
    refine ⟨F, env, g, ?_⟩
    unfold sSetF at h
    cases q : fm env with
    | ok p =>
      obtain ⟨d, env1⟩ := p
      rw [q] at h
      intro F1 H1 v l g1 r
      simp only [R.bind] at h
      split at h
      · rename_i c ns ds e
        split at h
        · rename_i hc
          obtain ⟨a, ea, fa, ow, _⟩ := own_at g1 e
          obtain ⟨dx, fvs, ha, ci, hn, rs⟩ := ow
          refine ⟨_, ea, ?_⟩
          show Wp.rSetF W.K (W.fl fi) (.ref a) v H1 _
          unfold Wp.rSetF
          simp only [ha]
          have hl : fvs.length = ns.length := by have := congrArg List.length hn; simpa using this
          refine ⟨ci.1.cl, hfo c hc.1, by rw [hl]; exact hc.2, ?_⟩
          obtain ⟨i1, i2, i3⟩ := putN_ok (f := fi) inj r hn rs
          have ci2 : CI W c (putN fi d ns ds).1 := ⟨ci.1, fun n hn => by
            rcases i3 n hn with rfl | z
            · exact hfo c hc.1
            · exact ci.2 n z⟩
          exact h F1 _ σ l.le (g1.write (o := .ins (W.cl c) dx (putF (W.fl fi) v fvs)) (d' := .ins c (putN fi d ns ds).1 (putN fi d ns ds).2) e ea (fun _ z => nomatch z) ⟨dx, _, upd_same, ci2, i1, i2⟩).1
        · exact h.elim
      · exact h.elim
    | exc x => rw [q] at h; exact h
    | bad => rw [q] at h; exact h
/-! ### methods -/
theorem meth_eval {o : Expr} {m : Str} {es : List Expr} {kws : List Keyword} (hb : plainBase o = true) (hs : es.any isStar = false) (hall : (kws.all fun k => k.arg.isSome) = true) (hn : es.length + kws.length + 1 < 30) (hl : (apos.endLine == pos.line) = true) :
    eval (.Call (.Attribute o m apos) es kws pos) X.env = (do
      let ov ← eval o X.env
      standAt apos.atName
      let (f, first) ← holding [ov] (getMethod ov m (do return (← importBound o X.env).getD true))
      callWith pos f first (backTo pos (starEach es X.env)) (backToKw pos (keywordEach kws X.env))) := by
  have e1 : (backTo pos (starEach es X.env)).all (!·.1) = true := by
    have := backTo_any (pos := pos) (env := X.env) es
    rw [hs, List.any_eq_false] at this
    rw [List.all_eq_true]
    intro q hq
    simpa using this q hq
  have few : methodCallForm (es.length + kws.length) (backTo pos (starEach es X.env)) (backToKw pos (keywordEach kws X.env)) = true := by
    unfold methodCallForm
    rw [e1, kw_all, hall]
    simp only [Bool.true_and, Bool.and_self]
    split <;> simp <;> omega
  rw [show eval (.Call (.Attribute o m apos) es kws pos) X.env = (do
    let ov ← attributeBase o m X.env (eval o X.env)
    standAt apos.atName
    methodCall o m apos pos X.env ov (es.length + kws.length) (backTo pos (starEach es X.env)) (backToKw pos (keywordEach kws X.env))) from rfl]
  rw [attributeBase_of hb]
  unfold methodCall calleeOf methodCallPos
  simp only [few, hl, Bool.not_true, Bool.false_or, if_true, pure_bind]
/-- the method of the class, called -/
structure MtOk (X : Cx) (W : Wd) (n : Nat) (c : Nat) (m : Str) (ks : List Str) (ob : Bool) (g : List Sl → RF) : Prop where
  ex : ∃ f, Meth X.K (W.cl c) m f ∧ CalOk X.prog X.w X.K X.mg X.base n (.ref f) ks (spT W ob g)
/-- o.m(..), o plain: mt tells the def by the class -/
def mMeth (mt : Nat → Option (List Sl → RF)) (fo : M D) (m : M (List Av)) : M D := M.bind fo fun d => match d with
  | .ins c ns ds => (match mt c with
    | some g => M.bind m fun as env => (match slOf env as with
      | some args => (match g (.pu d :: args) with
        | .ok (r, outs) => .ok (r, putO as outs env)
        | .exc x => .exc x
        | .bad => .bad)
      | none => .bad)
    | none => fun _ => .bad)
  | _ => fun _ => .bad
theorem meth_end {d : D} {v : V} {g : List Sl → RF} {F H : Hp} {env : Ev} {σ : L2.St} {vs : List V} {as : List Av} {Q : VK} (ag : Ag W B F H σ env) (rv : Rep W F v d) (h : AvsOk W F σ vs as)
    (w : Want W B E F H env σ Q (match slOf env as with
      | some args => (match g (.pu d :: args) with
        | .ok (r, outs) => .ok (r, putO as outs env)
        | .exc x => .exc x
        | .bad => .bad)
      | none => .bad)) : spT W false g (v :: vs) H Q E := by
  refine call_end (as := .p d :: as) ag ⟨rv, h⟩ ?_
  simp only [slOf]
  cases e : slOf env as with
  | none => rw [e] at w; exact w.elim
  | some args =>
    rw [e] at w
    simp only [Option.map_some]
    cases q : g (.pu d :: args) with
    | ok p =>
      obtain ⟨r, outs⟩ := p
      simp only [q] at w
      exact w
    | exc x => simp only [q] at w; exact w
    | bad => simp only [q] at w; exact w
theorem fl_none {F : Hp} {ns : List Nat} {fvs : List (Str × V)} {m : Str} (hm : ∀ k, W.fl k ≠ m) (hn : fvs.map (·.1) = ns.map W.fl) : fvs.lookup m = none := by
  cases q : fvs.lookup m with
  | none => rfl
  | some v =>
    have := key_mem q
    rw [hn] at this
    obtain ⟨k, _, hk⟩ := List.mem_map.mp this
    exact absurd hk (hm k)
theorem pd_meth {mt : Nat → Option (List Sl → RF)} {mn : Str} {fo : M D} (hK : X.K = W.K) (hr : Room n X.A) (hg : X.A.guards = some []) (hx : Passes (L2.CX X.prog X.w) X E) (hmt : ∀ c g, mt c = some g → MtOk X W n c mn ks false g) (hfl : ∀ k, W.fl k ≠ mn) (ho : PE X o (tD W B E fo)) (ha : PCs X es kws ks (tV W B E m))
    (hb : plainBase o = true) (hs : es.any isStar = false) (hall : (kws.all fun k => k.arg.isSome) = true) (hn : es.length + kws.length + 1 < 30) (hl : (apos.endLine == pos.line) = true) :
    PE X (.Call (.Attribute o mn apos) es kws pos) (tD W B E (mMeth mt fo m)) := by
  refine ⟨fun pins s σ H Q I h => ?_⟩
  refine methodCall_KW ?_ (meth_eval hb hs hall hn hl)
  have key : tD W B E fo σ H (fun v H1 => ∃ a c dx fvs g f, v = .ref a ∧ H1 a = some (.ins (W.cl c) dx fvs) ∧ Cls X.K (W.cl c) ∧ Meth X.K (W.cl c) mn f ∧ fvs.lookup mn = none ∧ CalOk X.prog X.w X.K X.mg X.base n (.ref f) ks (spT W false g) ∧ tV W B E m σ H1 (fun vs H2 => spT W false g (.ref a :: vs) H2 Q E)) := by
    obtain ⟨F, env, ag, h⟩ := h
    refine want_bind ag h fun d env1 F1 H1 v l g1 r w => ?_
    cases d with
    | ins c ns ds =>
      simp only at w
      cases q : mt c with
      | none => rw [q] at w; exact w.elim
      | some g =>
        rw [q] at w
        obtain ⟨f, hm, C⟩ := (hmt c g q).ex
        have r0 := r
        obtain ⟨a, dx, fvs, rfl, hp, ci, hn, rs⟩ := r
        refine ⟨a, c, dx, fvs, g, f, rfl, g1.sub _ _ hp, by rw [hK]; exact ci.1.cl, hm, fl_none (F := F1) hfl hn, C, ?_⟩
        exact wantV_bind (G := fun F H env r => Want W B E F H env σ Q r) g1 w (fun _ _ _ _ _ _ _ l w => Want.st w l) (fun _ _ _ _ w => w) (fun _ _ _ w => w) fun as env2 F2 H2 vs l2 g2 r2 w2 => meth_end g2 (Rep.le l2.le r0) r2 w2
    | _ => exact w.elim
  refine thn (ho.run pins s σ H _ I key) fun u s1 ⟨y, H1, I1, ry, a, c, dx, fvs, g, f, ey, ea, cc, hm, l0, C, q⟩ => ?_
  subst ey
  obtain rfl : u = Value.ref a := ry
  refine getmeth_ok I1 ea cc hm l0 ?_
  refine ha pos (.ref f) [.ref a] pins s1 σ H1 _ _ hm.kp I1 q fun us ws vs zs s2 H2 I2 r1 r2 hl q2 => ?_
  exact run_cal (vs := .ref a :: vs) (us := .ref a :: us) C hr hg hx I2 (.cons rfl r1) r2 hl q2
end
end Dl

set_option maxHeartbeats 4000000
/-! DLA: attributes: fields, properties, fields of kept exceptions; isinstance. -/
namespace Dl
open PySem PySem.W L2 PyProof.Rows
section
variable {X : Cx} {W : Wd} {B : Bs} {E : XK} {a o e : Expr} {f : M D} {pos p apos : Pos} {n : Nat}
/-- the property of the class -/
structure PrOk (X : Cx) (W : Wd) (n : Nat) (c : Nat) (m : Str) (g : List Sl → RF) : Prop where
  ex : ∃ pa f, PropOf X.K (W.cl c) m pa f ∧ CalOk X.prog X.w X.K X.mg X.base n (.ref f) [] (spT W false g)
theorem getprop_cal {pins : List (Addr × Obj)} {σ : L2.St} {H : Hp} {s : Shared} {Q : VK} {b : Bool} {E' : Value → Shared → Prop} {a dx C pa g : Addr} {fs : List (Str × V)} {m : Str} {sp : Sp} (I : Inv X pins σ H s) (ea : H a = some (.ins C dx fs)) (c : Cls X.K C) (hp : PropOf X.K C m pa g)
    (F : CalOk X.prog X.w X.K X.mg X.base n (.ref g) [] sp) (hr : Room (n + 1) X.A) (hg : X.A.guards = some []) (h : sp [.ref a] H Q (fun _ _ _ => False)) : wpAny (model X.prog X.w) X.A (getAttr (.ref a) m b) (EP X pins σ Q) E' s := by
  obtain ⟨mA, O, _, _, _, _⟩ := ins_get I.hok ea
  obtain ⟨od, J, _⟩ := O.look
  obtain ⟨rest, hrec⟩ := hp.rec_
  have I1 := I.tok (s.toks + 1)
  have hc : (PySem.W.clsIn X.K C).isSome = true := by
    obtain ⟨cd, hc, _⟩ := PySem.W.any_some c.hd
    rw [hc]
    rfl
  refine PySem.W.get_bind I.kIn J (PySem.W.plainGet_of (c.get m)).1 (PySem.W.findObj_data hc hp.at_ hp.get hp.tak) (PySem.W.plainGet_of (c.get m)).2 (wpAny_call (PySem.W.prop_get (s := { s with toks := s.toks + 1 }) I.kIn hrec ?_))
  refine codeAny_mono (F X.A.in1 X.stack { s with toks := s.toks + 1 } H [.ref a] [] [.ref a] [] Q (fun _ _ _ => False) hr.in1 hg I1.env0.in1 (.cons rfl .nil) .nil rfl h) fun r s' hq => ?_
  cases r with
  | error er =>
    obtain ⟨_, _, _, _, _, _, _, _, _, _, _, _, z⟩ := hq
    exact z.elim
  | ok fl =>
    cases fl with
    | ret u =>
      obtain ⟨v, H', I3, rv, q3⟩ := I1.after hq
      show wpAny _ _ (handedOut u) _ _ _
      rw [PySem.W.handedOut_of (handed_of rv)]
      exact wpAny_pure ⟨v, H', I3, rv, q3⟩
    | next => exact False.elim hq
    | brk => exact False.elim hq
    | cont => exact False.elim hq
/-- o.f by the data: a property, a field -/
def attrD (pt : Nat → Option (List Sl → RF)) (f : Nat) (d : D) : R D := match d with
  | .ins c ns ds => (match pt c with
    | some g => (match g [.pu d] with
      | .ok (r, _) => .ok r
      | _ => .bad)
    | none => R.ofO (lookN f ns ds))
  | .exc _ ns ds => R.ofO (lookN f ns ds)
  | _ => .bad
theorem call1_end {d : D} {v : V} {g : List Sl → RF} {F H : Hp} {Q : VK} {r : D} {outs : List D} {E' : XK} (bs : PStep W B.A B.F B.H F H) (rv : Rep W F v d) (e : g [.pu d] = .ok (r, outs)) (q : Out W B E F H (.ok r) Q) : spT W false g [v] H Q E' := by
  refine ⟨F, [.pu d], bs.sub, bs.tabs, ⟨rv, trivial⟩, ?_⟩
  rw [e]
  intro F' H' v' p ho r'
  have ea : adr [v] [.pu d] = [] := by cases v <;> rfl
  rw [ea] at p
  exact q F' H' v' p r'
theorem pd_attr {pt : Nat → Option (List Sl → RF)} {fm : M D} {fi : Nat} (hK : X.K = W.K) (inj : ∀ a b, W.fl a = W.fl b → a = b) (hr : Room (n + 1) X.A) (hg : X.A.guards = some []) (hpt : ∀ c g, pt c = some g → PrOk X W n c (W.fl fi) g) (he : PE X o (tD W B E fm)) (hb : plainBase o = true) :
    PE X (.Attribute o (W.fl fi) pos) (tD W B E (m1 (attrD pt fi) fm)) := by
  refine ⟨fun pins s σ H Q I h => ?_⟩
  have h1 := t1_of h
  refine attr_of (attributeBase_of hb) (thn (he.run pins s σ H _ I h1) fun u s1 ⟨x, H1, I1, rx, F1, d, bs, r, w⟩ => ?_)
  cases d with
  | ins c ns ds =>
    have r0 := r
    obtain ⟨a, dx, fvs, rfl, hp, ci, hn, rs⟩ := r
    obtain rfl : u = Value.ref a := rx
    have hC : Cls X.K (W.cl c) := by rw [hK]; exact ci.1.cl
    simp only [attrD] at w
    cases q : pt c with
    | some g =>
      rw [q] at w
      obtain ⟨pa, f, hpr, C⟩ := (hpt c g q).ex
      simp only at w
      split at w
      · rename_i r' outs e
        exact getprop_cal I1 (bs.sub _ _ hp) hC hpr C hr hg (call1_end bs r0 e w)
      · exact w.elim
    | none =>
      rw [q] at w
      simp only at w
      cases e : lookN fi ns ds with
      | none => rw [e] at w; exact w.elim
      | some y =>
        rw [e] at w
        obtain ⟨z, hz, rz⟩ := lookN_ok inj hn rs e
        have nm : NoAttr W.K (W.cl c) (W.fl fi) := by
          have : W.fl fi ∈ fvs.map (·.1) := key_mem hz
          rw [hn] at this
          obtain ⟨k, hn1, hn2⟩ := List.mem_map.mp this
          rw [← hn2]
          exact ci.2 k hn1
        exact getattr_ok I1 (bs.sub _ _ hp) hC (by rw [hK]; exact nm) hz fun u' s2 I2 ru => ⟨z, H1, I2, ru, w F1 H1 z (PStep.refl bs.sub bs.tabs) rz⟩
  | exc c ns ds =>
    obtain ⟨a, dd, fvs, rfl, hp, hd, xi, hn, rs⟩ := r
    obtain rfl : u = Value.ref a := rx
    simp only [attrD] at w
    cases e : lookN fi ns ds with
    | none => rw [e] at w; exact w.elim
    | some y =>
      rw [e] at w
      obtain ⟨z, hz, rz⟩ := lookN_ok inj hn rs e
      have nm : NoAttr W.K (W.cl c) (W.fl fi) := by
        have : W.fl fi ∈ fvs.map (·.1) := key_mem hz
        rw [hn] at this
        obtain ⟨k, hn1, hn2⟩ := List.mem_map.mp this
        rw [← hn2]
        exact xi.2.2 k hn1
      obtain ⟨oe, vs, ga, zz, dt⟩ := Wp.exK_at I1.hok (bs.sub _ _ hp)
      obtain ⟨mA, nsp, rel⟩ := I1.hok dd _ (bs.sub _ _ hd)
      obtain ⟨od, ho, lk⟩ := lookIn_ns nsp
      obtain ⟨u, hu, ru⟩ := RelO.some_of (v := z) (o := mA (W.fl fi)) (by rw [← hz]; exact rel (W.fl fi))
      have J : InstAt s1.heap a oe (W.cl c) (some od) := ⟨ga, zz.1, by unfold notCls; rw [dt] <;> rfl, by rw [zz.2]; exact ho⟩
      have xf := xi.1
      rw [← hK] at xf nm
      exact HandSPX.exc_get I1.kIn J xf.ga xf.gg xf.exC (findObj_own xf.hdC nm rfl (by rw [lk, hu])) (handed_of ru) ⟨z, H1, I1.tok _, ru, w F1 H1 z (PStep.refl bs.sub bs.tabs) rz⟩
  | _ => exact w.elim
end
end Dl

set_option maxHeartbeats 4000000
/-! DLB: operators over plain data. -/
namespace Dl
open PySem PySem.W L2 PyProof.Rows
section
variable {X : Cx} {W : Wd} {B : Bs} {E : XK}
theorem out_flat {F H : Hp} {d : D} {v : V} {Q : VK} (bs : PStep W B.A B.F B.H F H) (h : Out W B E F H (.ok d) Q) (r : Rep W F v d) : Q v H := h F H v (PStep.refl bs.sub bs.tabs) r
theorem out_new {F H : Hp} {d : D} {o : HO} {p : Addr} {Q : VK} (bs : PStep W B.A B.F B.H F H) (h : Out W B E F H (.ok d) Q) (n : H p = none) (r : Rep W (upd F p o) (.ref p) d) (ho : NotT o := by intro _ z; cases z) : Q (.ref p) (upd H p o) := h _ _ _ (PStep.fz bs.sub bs.tabs n ho) r
theorem le_fz {F H : Hp} {o : HO} {p : Addr} (bs : PStep W B.A B.F B.H F H) (n : H p = none) : Le F (upd F p o) := fun a x h => by
  have : a ≠ p := fun e => by rw [e] at h; rw [bs.sub _ _ h] at n; cases n
  rw [upd_ne this]; exact h
theorem str_eq {z : Str} : (⟨z.cps.toList.toArray⟩ : Str) = z := by cases z; simp
theorem app_cps (x y : Str) : (x ++ y).cps.toList = x.cps.toList ++ y.cps.toList := by
  show (Str.append x y).cps.toList = _
  simp [Str.append]
theorem len_cps (x : Str) : x.length = x.cps.toList.length := by simp [Str.length]
/-! ### whole numbers -/
def mulOk (i j : Int) : Bool := (decide (-18446744073709551616 < i) && decide (i < 18446744073709551616)) || (decide (-18446744073709551616 < j) && decide (j < 18446744073709551616)) || (decide (i.natAbs < 2 ^ 4000) && decide (j.natAbs < 2 ^ 4000))
theorem mulOk_of {i j : Int} (h : mulOk i j = true) : Wp.CMulU i j := by
  simp only [mulOk, Bool.or_eq_true, Bool.and_eq_true, decide_eq_true_eq] at h
  rcases h with (h | h) | h
  · exact .inl (.inl h)
  · exact .inl (.inr h)
  · exact .inr h
def divOk (j : Int) : Bool := decide (j ≠ 0) && decide (j.natAbs < 2 ^ 8000)
def powOk (i j : Int) : Bool := decide (0 ≤ j) && decide (j ≤ 1000000) && decide (i.natAbs < 2 ^ 64)
def addD : D → D → R D
  | .int i, .int j => .ok (.int (i + j))
  | .str a, .str b => if a.length + b.length ≤ sizeLine then .ok (.str (a ++ b)) else .bad
  | .lst a, .lst b => if a.length + b.length ≤ sizeLine then .ok (.lst (a ++ b)) else .bad
  | .tup a, .tup b => if a.length + b.length ≤ sizeLine ∧ a ≠ [] ∧ b ≠ [] then .ok (.tup (a ++ b)) else .bad
  | _, _ => .bad
def subD : D → D → R D
  | .int i, .int j => .ok (.int (i - j))
  | _, _ => .bad
def mulD : D → D → R D
  | .int i, .int j => if mulOk i j then .ok (.int (i * j)) else .bad
  | .str a, .int k => if 0 ≤ k ∧ k ≤ 1000000 ∧ a.length * k.toNat ≤ sizeLine then .ok (.str (List.replicate k.toNat a).flatten) else .bad
  | .tup a, .int k => if a ≠ [] ∧ 2 ≤ k ∧ k ≤ 1000 ∧ a.length ≤ 1000 then .ok (.tup (List.replicate k.toNat a).flatten) else .bad
  | .lst a, .int k => if -(2 ^ 63) ≤ k ∧ k < 2 ^ 63 ∧ a.length * k.toNat ≤ sizeLine then .ok (.lst (List.replicate k.toNat a).flatten) else .bad
  | _, _ => .bad
def fdivD : D → D → R D
  | .int i, .int j => if divOk j then .ok (.int (i.fdiv j)) else .bad
  | _, _ => .bad
def modD : D → D → R D
  | .int i, .int j => if j ≠ 0 then .ok (.int (i.fmod j)) else .bad
  | _, _ => .bad
def powD : D → D → R D
  | .int i, .int j => if powOk i j then .ok (.int (i ^ j.toNat)) else .bad
  | _, _ => .bad
theorem okS_app {a b : List Nat} (h : okS a) (h' : okS b) (hl : a.length + b.length ≤ sizeLine) : okS (a ++ b) := ⟨fun c hc => (List.mem_append.mp hc).elim (h.1 c) (h'.1 c), by simpa using hl⟩
theorem Reps.rep {F : Hp} {vs : List V} {ds : List D} (r : Reps W F vs ds) : ∀ n : Nat, Reps W F (List.replicate n vs).flatten (List.replicate n ds).flatten
  | 0 => rfl
  | n + 1 => by
    rw [List.replicate_succ, List.replicate_succ, List.flatten_cons, List.flatten_cons]
    exact r.append (Reps.rep r n)
theorem foldl_app (c : Array Nat) : ∀ (n : Nat) (acc : Array Nat), ((List.replicate n c).foldl (· ++ ·) acc).toList = acc.toList ++ (List.replicate n c.toList).flatten
  | 0, acc => by simp
  | n + 1, acc => by
    rw [List.replicate_succ, List.foldl_cons, foldl_app c n (acc ++ c), List.replicate_succ, List.flatten_cons]
    simp
theorem mul_cps (x : Str) (n : Int) (h : 0 ≤ n) : (Txt.mul x n).cps.toList = (List.replicate n.toNat x.cps.toList).flatten := by
  unfold Txt.mul
  split
  · have : n = 0 := by omega
    subst this
    rfl
  · split
    · rename_i h1 h2
      simp only [Bool.or_eq_true, beq_iff_eq] at h2
      rcases h2 with rfl | h2
      · simp
      · have e : x.cps.toList = [] := List.eq_nil_of_length_eq_zero (by rw [← len_cps]; exact h2)
        rw [e]
        simp
    · rw [foldl_app]; simp
theorem flat_len (s : List Nat) : ∀ n : Nat, (List.replicate n s).flatten.length = s.length * n
  | 0 => by simp
  | n + 1 => by rw [List.replicate_succ, List.flatten_cons, List.length_append, flat_len s n, Nat.mul_succ, Nat.add_comm]
theorem okS_rep {s : List Nat} (h : okS s) {n : Nat} (hl : s.length * n ≤ sizeLine) : okS (List.replicate n s).flatten := by
  refine ⟨fun c hc => ?_, by rw [flat_len]; exact hl⟩
  obtain ⟨l, hl, hc⟩ := List.mem_flatten.mp hc
  rw [List.eq_of_mem_replicate hl] at hc
  exact h.1 c hc
theorem v_add : OpR X (binaryOp .Add) (rV2 W B E addD) := by
  intro pins s σ H x y v u Q I rx ry h
  obtain ⟨F, d, e, bs, r1, r2, w⟩ := h
  cases d with
  | int i =>
    cases e with
    | int j =>
      cases r1; cases r2
      exact op_add pins s σ H _ _ v u Q I rx ry ⟨i, j, rfl, rfl, out_flat bs w rfl⟩
    | _ => exact w.elim
  | str a =>
    cases e with
    | str b =>
      obtain ⟨z1, rfl, rfl, o1⟩ := r1
      obtain ⟨z2, rfl, rfl, o2⟩ := r2
      simp only [addD] at w
      split at w
      · rename_i hl
        exact op_add_str pins s σ H _ _ v u Q I rx ry ⟨z1, z2, rfl, rfl, by rw [len_cps, len_cps]; exact hl, out_flat bs w ⟨_, rfl, app_cps _ _, okS_app o1 o2 hl⟩⟩
      · exact w.elim
    | _ => exact w.elim
  | lst a =>
    cases e with
    | lst b =>
      obtain ⟨p1, v1, rfl, h1, q1⟩ := r1
      obtain ⟨p2, v2, rfl, h2, q2⟩ := r2
      simp only [addD] at w
      split at w
      · rename_i hl
        exact op_cat pins s σ H _ _ v u Q I rx ry ⟨p1, p2, v1, v2, rfl, rfl, bs.sub _ _ h1, bs.sub _ _ h2, by rw [q1.length, q2.length]; exact hl, fun p np => out_new bs w np ⟨p, _, rfl, upd_same, (q1.append q2).le (le_fz bs np)⟩⟩
      · exact w.elim
    | _ => exact w.elim
  | tup a =>
    cases e with
    | tup b =>
      obtain ⟨p1, v1, rfl, h1, q1⟩ := r1
      obtain ⟨p2, v2, rfl, h2, q2⟩ := r2
      simp only [addD] at w
      split at w
      · rename_i hl
        have l1 := q1.length
        have l2 := q2.length
        refine op_catT pins s σ H _ _ v u Q I rx ry ⟨p1, p2, v1, v2, rfl, rfl, SqT.of (bs.sub _ _ h1), SqT.of (bs.sub _ _ h2), fun z => hl.2.1 (List.eq_nil_of_length_eq_zero (by rw [← l1, z]; rfl)), by rw [l1, l2]; exact hl.1, fun z => ?_, fun _ p np => out_new bs w np ⟨p, _, rfl, upd_same, (q1.append q2).le (le_fz bs np)⟩⟩
        exact absurd (List.eq_nil_of_length_eq_zero (by rw [← l2, z]; rfl)) hl.2.2
      · exact w.elim
    | _ => exact w.elim
  | _ => exact w.elim
theorem v_sub : OpR X (binaryOp .Sub) (rV2 W B E subD) := by
  intro pins s σ H x y v u Q I rx ry h
  obtain ⟨F, d, e, bs, r1, r2, w⟩ := h
  cases d with
  | int i =>
    cases e with
    | int j =>
      cases r1; cases r2
      exact op_sub pins s σ H _ _ v u Q I rx ry ⟨i, j, rfl, rfl, out_flat bs w rfl⟩
    | _ => exact w.elim
  | _ => exact w.elim
theorem v_mul : OpR X (binaryOp .Mult) (rV2 W B E mulD) := by
  intro pins s σ H x y v u Q I rx ry h
  obtain ⟨F, d, e, bs, r1, r2, w⟩ := h
  cases d with
  | int i =>
    cases e with
    | int j =>
      cases r1; cases r2
      simp only [mulD] at w
      split at w
      · rename_i hl
        exact Wp.oMul pins s σ H (.int i) (.int j) v u Q I rx ry ⟨mulOk_of hl, out_flat bs w rfl⟩
      · exact w.elim
    | _ => exact w.elim
  | str a =>
    cases e with
    | int k =>
      obtain ⟨z, rfl, rfl, o1⟩ := r1
      cases r2
      simp only [mulD] at w
      split at w
      · rename_i hl
        obtain ⟨h0, h1, h2⟩ := hl
        obtain ⟨t1, rfl⟩ := rx
        obtain ⟨t2, rfl⟩ := ry
        refine PySem.SB.mul ⟨by simp; omega, fun h3 h4 => ?_, fun h3 h4 => ?_⟩ fun t' k' => ⟨.str (Txt.mul z k), H, I.tok k', ⟨_, rfl⟩, out_flat bs w ⟨_, rfl, mul_cps z k h0, okS_rep o1 h2⟩⟩
        · rw [len_cps]
          have : ((z.cps.toList.length : Nat) : Int) ≤ 16777216 := by have := o1.2; rw [sizeLine_eq] at this; omega
          have h5 : (16777216 : Int) ≤ (2 ^ 63 - 1) / k := by
            have : (2 ^ 63 - 1) / 1000000 ≤ ((2 : Int) ^ 63 - 1) / k := by
              refine Int.le_ediv_of_mul_le (by omega) ?_
              have : (2 ^ 63 - 1 : Int) / 1000000 * k ≤ (2 ^ 63 - 1) / 1000000 * 1000000 := Int.mul_le_mul_of_nonneg_left h1 (by decide)
              exact Int.le_trans this (by decide)
            exact Int.le_trans (by decide) this
          omega
        · rw [len_cps]
          unfold Builtin.Str.tooLong
          simpa using h2
      · exact w.elim
    | _ => exact w.elim
  | lst a =>
    cases e with
    | int k =>
      obtain ⟨p1, v1, rfl, h1, q1⟩ := r1
      cases r2
      simp only [mulD] at w
      split at w
      · rename_i hl
        exact op_rep pins s σ H _ _ v u Q I rx ry ⟨p1, k, v1, rfl, rfl, bs.sub _ _ h1, hl.1, hl.2.1, by rw [q1.length]; exact hl.2.2, fun p np => out_new bs w np ⟨p, _, rfl, upd_same, (q1.rep _).le (le_fz bs np)⟩⟩
      · exact w.elim
    | _ => exact w.elim
  | tup a =>
    cases e with
    | int k =>
      obtain ⟨p1, v1, rfl, h1, q1⟩ := r1
      cases r2
      simp only [mulD] at w
      split at w
      · rename_i hl
        have l1 := q1.length
        exact op_repT pins s σ H _ _ v u Q I rx ry ⟨p1, k, v1, rfl, rfl, SqT.of (bs.sub _ _ h1), fun z => hl.1 (List.eq_nil_of_length_eq_zero (by rw [← l1, z]; rfl)), hl.2.1, hl.2.2.1, by rw [l1]; exact hl.2.2.2, fun p np => out_new bs w np ⟨p, _, rfl, upd_same, (q1.rep _).le (le_fz bs np)⟩⟩
      · exact w.elim
    | _ => exact w.elim
  | _ => exact w.elim
theorem v_fdiv : OpR X (binaryOp .FloorDiv) (rV2 W B E fdivD) := by
  intro pins s σ H x y v u Q I rx ry h
  obtain ⟨F, d, e, bs, r1, r2, w⟩ := h
  cases d with
  | int i =>
    cases e with
    | int j =>
      cases r1; cases r2
      simp only [fdivD] at w
      split at w
      · rename_i hl
        simp only [divOk, Bool.and_eq_true, decide_eq_true_eq] at hl
        exact Wp.oFdivN pins s σ H (.int i) (.int j) v u Q I rx ry ⟨hl, out_flat bs w rfl⟩
      · exact w.elim
    | _ => exact w.elim
  | _ => exact w.elim
theorem v_mod : OpR X (binaryOp .Mod) (rV2 W B E modD) := by
  intro pins s σ H x y v u Q I rx ry h
  obtain ⟨F, d, e, bs, r1, r2, w⟩ := h
  cases d with
  | int i =>
    cases e with
    | int j =>
      cases r1; cases r2
      simp only [modD] at w
      split at w
      · rename_i hl
        exact Wp.oModN pins s σ H (.int i) (.int j) v u Q I rx ry ⟨hl, out_flat bs w rfl⟩
      · exact w.elim
    | _ => exact w.elim
  | _ => exact w.elim
theorem v_pow : OpR X (binaryOp .Pow) (rV2 W B E powD) := by
  intro pins s σ H x y v u Q I rx ry h
  obtain ⟨F, d, e, bs, r1, r2, w⟩ := h
  cases d with
  | int i =>
    cases e with
    | int j =>
      cases r1; cases r2
      simp only [powD] at w
      split at w
      · rename_i hl
        simp only [powOk, Bool.and_eq_true, decide_eq_true_eq] at hl
        exact Wp.oPow pins s σ H (.int i) (.int j) v u Q I rx ry ⟨⟨hl.1.1, hl.1.2, hl.2⟩, out_flat bs w rfl⟩
      · exact w.elim
    | _ => exact w.elim
  | _ => exact w.elim
end
end Dl

set_option maxHeartbeats 4000000
/-! DLC: operators, comparisons, conversions by methods of the text's own classes. -/
namespace Dl
open PySem PySem.W L2 PyProof.Rows
open Wp (isIns isIns_get rTy rTy_get ty_looks inst_of back_of own_left1 own_right1 NumT bool_newO str_newO strOf_own)
section
variable {X : Cx} {C f g : Addr} {k : Nat} {sp : Sp} {E : XK} {op : Operator}
theorem run_subC {A : Around} {pins : List (Addr × Obj)} {s : Shared} {σ : L2.St} {H : Hp} {vs : List V} {us : List Value} {Q : VK} (F : CalOk X.prog X.w X.K X.mg X.base k (.ref f) [] sp) (sb : L2.Sub X k A) (gd : A.guards = some []) (hx : Passes (L2.CX X.prog X.w) X E)
    (I : L2.Inv X pins σ H s) (r : Vals vs us) (h : sp vs H Q E) : wpAny (model X.prog X.w) A (call (.ref f) us) (EP X pins σ Q) X.xe s := by
  have e0 : Env0 X.prog X.w X.K X.mg X.base A X.stack s H := by
    have e := I.env0
    exact ⟨by rw [sb.fr]; exact e.frames, e.mod, e.bs, e.bsz, e.funs, e.frf, e.hok, e.bare⟩
  refine wpAny_call (codeAny_mono (F A X.stack s H us [] vs [] Q E sb.room gd e0 r .nil rfl (by rw [List.append_nil]; exact h)) fun r s' z => ?_)
  cases r with
  | error e => exact hx pins σ H s e s' I z
  | ok fl =>
    cases fl with
    | ret w' => exact I.after z
    | next => exact z.elim
    | brk => exact z.elim
    | cont => exact z.elim
/-- the operator's method in the class; its reflected one, if there is one -/
structure BinL (K : Frag) (C : Addr) (nm : String) (f : Addr) : Prop where
  hs : findIn K (.ref C) (PySem.dunder nm) = some (some (.ref f))
  hf : isFn K (.ref f) = true
  hr : ∃ r, findIn K (.ref C) (PySem.dunderR nm) = some r ∧ ∀ id, r ≠ some (.builtin id)
theorem binop_ownC {prog : Program} {w : World} {A : Around} {E : Value → Shared → Prop} {s : Shared} {K : Frag} {x C f : Addr} {ox : Obj} {od : Option Obj} {b t : Value} {nm : String} {Q : Option Value → Shared → Prop} (X : K.In s.heap) (I : W.InstAt s.heap x ox C od)
    (hb : Looks (model prog w) s.heap (typeOf b) t) (hc : selfFirst K C = true) (B : BinL K C nm f) (ht : NumT K C nm t)
    (h : wpAny (model prog w) A (call (.ref f) [.ref x, b]) (W.CmpBack fun v s' => Q (some v) s') E s) : wpAny (model prog w) A (binaryOp1 nm (.ref x) b) Q E s := by
  rcases ht with rfl | ⟨U, rb, ro, rfl, h1, h2, h3⟩
  · obtain ⟨cd, hcd, hm⟩ := any_some hc
    obtain ⟨rest, hm⟩ : ∃ rest, cd.mro = .ref C :: rest := by
      cases q : cd.mro with
      | nil => rw [q] at hm; cases hm
      | cons a r => rw [q] at hm; exact ⟨r, by rw [List.head?_cons] at hm; cases (beq_iff_eq.mp hm); rfl⟩
    unfold binaryOp1
    refine wpAny_bind (I.type.here (wpAny_bind (hb.here (wpAny_bind ((fills_K X hcd hm B.hs).here ?_)))))
    simp only [beq_self_eq_true, if_true]
    refine wpAny_bind (wpAny_pure ?_)
    simp only [Bool.and_false, Bool.false_eq_true, if_false, Bool.false_and]
    refine wpAny_bind (wpAny_pure ?_)
    simp only [Bool.false_eq_true, if_false]
    refine wpAny_bind (m := tryMethod (.ref x) _ b) ?_
    unfold tryMethod
    refine wpAny_bind (special_fn X I B.hs (beq_iff_eq.mp B.hf) (wpAny_mono h (fun v s' hv => ?_) fun _ _ e => e))
    cases v <;> first | exact hv.elim | exact wpAny_pure (wpAny_pure hv)
  · obtain ⟨r, hr, hr2⟩ := B.hr
    exact own_left1 X I hb hc B.hs B.hf hr hr2 h1 h2 h3 h
def rOpLC (K : Frag) (C : Addr) (nm : String) (sp : Sp) (E : XK) : R2 := fun x y H Q => isIns C H x ∧ rTy K y H (NumT K C nm) ∧ sp [x, y] H Q E
theorem op_ownLC {K : Frag} (hc : selfFirst K C = true) (B : BinL K C op.info.2 f) (F : CalOk X.prog X.w X.K X.mg X.base k (.ref f) [] sp) (hr : Room k X.A) (gd : X.A.guards = some []) (hx : Passes (L2.CX X.prog X.w) X E) (hK : X.K = K) : OpR X (binaryOp op) (rOpLC K C op.info.2 sp E) := by
  subst hK
  intro pins s σ H x y v u Q I rx ry hq
  unfold binaryOp
  have one : wpAny (model X.prog X.w) X.A (binaryOp1 op.info.2 v u) (fun r s' => ∃ z, r = some z ∧ EP X pins σ Q z s') X.xe s := by
    obtain ⟨h1, h2, h3⟩ := hq
    obtain ⟨a, dx, fs, rfl, ha⟩ := isIns_get h1
    obtain ⟨t, ty, ht⟩ := rTy_get h2
    obtain rfl : v = Value.ref a := rx
    obtain ⟨od, J⟩ := inst_of I ha
    refine binop_ownC I.kIn J (ty_looks I ry ty _) hc B ht ?_
    refine wpAny_mono (run_subC F ⟨hr, rfl⟩ gd hx I (vs := [V.ref a, y]) (.cons rfl (.cons ry .nil)) h3) (fun w' s' z => ?_) fun _ _ e => e
    have := back_of z
    cases w' <;> first | exact this.elim | exact ⟨_, rfl, this⟩
  refine wpAny_holding (wpAny_bind (wpAny_mono one (fun r s' z => ?_) fun _ _ e => e))
  obtain ⟨z, rfl, q⟩ := z
  exact wpAny_pure q
def rCmpC (K : Frag) (C : Addr) (sp : Sp) (E : XK) : R2 := fun x y H Q => isIns C H x ∧ rTy K y H (fun t => notFirst K C t = true) ∧ sp [x, y] H Q E
theorem rc_ownC {op : CmpOp} {A : Around} (sb : L2.Sub X k A) (gd : A.guards = some []) (hs : findIn X.K (.ref C) (cmpInfo op).2.1 = some (some (.ref f))) (hf : isFn X.K (.ref f) = true) (F : CalOk X.prog X.w X.K X.mg X.base k (.ref f) [] sp) (hx : Passes (L2.CX X.prog X.w) X E)
    {pins : List (Addr × Obj)} {s : Shared} {σ : L2.St} {H : Hp} {x y : V} {v u : Value} {Q : VK} (I : L2.Inv X pins σ H s) (rx : RelV x v) (ry : RelV y u) (hq : rCmpC X.K C sp E x y H Q) : wpAny (model X.prog X.w) A (richCompare op v u) (EP X pins σ Q) X.xe s := by
  obtain ⟨h1, h2, h3⟩ := hq
  obtain ⟨a, dx, fs, rfl, ha⟩ := isIns_get h1
  obtain ⟨t, ty, ht⟩ := rTy_get h2
  obtain rfl : v = Value.ref a := rx
  obtain ⟨od, J⟩ := inst_of I ha
  obtain ⟨m, hF⟩ := I.fr
  refine PySem.W.cmp_K (op := op) sb.room.units0 hF I.ok.mod.kin J (ty_looks I ry ty _) ht hs hf ?_
  exact wpAny_mono (run_subC F sb gd hx I (vs := [V.ref a, y]) (.cons rfl (.cons ry .nil)) h3) (fun v s' z => back_of z) fun _ _ e => e
theorem op_cmpC {K : Frag} {op : CmpOp} (ho : ∀ a b, compareOp op a b = richCompare op a b) (hs : findIn K (.ref C) (cmpInfo op).2.1 = some (some (.ref f))) (hf : isFn K (.ref f) = true) (F : CalOk X.prog X.w K X.mg X.base k (.ref f) [] sp) (hr : Room k X.A) (gd : X.A.guards = some []) (hx : Passes (L2.CX X.prog X.w) X E) (hK : X.K = K) :
    OpR X (compareOp op) (rCmpC K C sp E) := by
  subst hK
  intro pins s σ H x y v u Q I rx ry hq
  rw [ho]
  exact rc_ownC ⟨hr, rfl⟩ gd hs hf F hx I rx ry hq
/-- != by the text's own == -/
def rNeC (K : Frag) (C : Addr) (sp : Sp) (E : XK) : R2 := fun x y H Q => isIns C H x ∧ rTy K y H (fun t => notFirst K C t = true) ∧ sp [x, y] H (fun v H' => ∃ b, v = .bl b ∧ Q (.bl (!b)) H') E
theorem op_neC {K : Frag} (hs : findIn K (.ref C) "__eq__" = some (some (.ref f))) (hf : isFn K (.ref f) = true) (hn : findIn K (.ref C) "__ne__" = some (some (.builtin "object.__ne__"))) (hob : mroIn K C (.type "object") = some true)
    (F : CalOk X.prog X.w K X.mg X.base k (.ref f) [] sp) (hr : Room (k + 1) X.A) (gd : X.A.guards = some []) (hx : Passes (L2.CX X.prog X.w) X E) (hK : X.K = K) : OpR X (compareOp .NotEq) (rNeC K C sp E) := by
  subst hK
  intro pins s σ H x y v u Q I rx ry hq
  obtain ⟨h1, h2, h3⟩ := hq
  obtain ⟨a, dx, fs, rfl, ha⟩ := isIns_get h1
  obtain ⟨t, ty, ht⟩ := rTy_get h2
  obtain rfl : v = Value.ref a := rx
  obtain ⟨od, J⟩ := inst_of I ha
  have hu := hr.units0
  have one : wpAny (model X.prog X.w) X.A (tryCompare (.ref a) "__ne__" u) (fun r s' => ∃ v, r = some v ∧ EP X pins σ Q v s') X.xe s := by
    unfold tryCompare
    simp only [callSpecialIfBound?, bindSpecialIfBound?]
    have hb : bindSpecial (.builtin "object.__ne__") (.ref a) = pure (.builtin "object.__ne__", [.ref a]) := PySem.F.slot_object_ne.bind _
    have cl : wpAny (model X.prog X.w) X.A (call (.builtin "object.__ne__") [.ref a, u]) (EP X pins σ Q) X.xe s := by
      refine wpAny_call (codeAny_call_builtin PySem.F.slot_object_ne.plain PySem.F.cmpEntry_ne (@PySem.W.check_slot (model X.prog X.w) _ _ s "object.__ne__" "object" "__ne__" (.ref a) [u] [] _ PySem.F.cmpKind_ne PySem.F.cmpSplit_ne ?_ (PySem.F.cmpArgs_ne _ _) ?_))
      · exact J.type.andThen (looks_subIn I.kIn hob)
      · have call1 := run_subC F (A := X.A.in1) ⟨hr.in1, rfl⟩ gd hx I (vs := [V.ref a, y]) (.cons rfl (.cons ry .nil)) h3
        have hu1 : X.A.in1.units < cLine := hr.in1.units0
        unfold Builtin.«object.__ne__»
        repeat (first
          | with_reducible refine wpAny_cRoomFor hu1 ?_
          | (refine wpAny_bind (m := callSpecialIfBound? (.ref a) (Str.ofString "__eq__") [u])
              (ifBound_K I.kIn J hs hf (wpAny_mono call1 (fun r s' hr => by
                obtain ⟨z, H', I', rz, b, rfl, hq⟩ := hr
                obtain rfl : r = Value.bool b := rz
                have hq : EP X pins σ Q (.bool (!b)) s' := ⟨.bl (!b), H', I', rfl, hq⟩
                repeat (first | exact hq | exact wpAny_pure hq | exact wpAny_truthy_bool hq | (refine wpAny_bind (m := truthy (.bool _)) (wpAny_truthy_bool ?_)) | wp_step)) fun _ _ e => e)))
          | wp_step)
    refine wpAny_bind (wpAny_holding (wpAny_bind (wpAny_bind (wpAny_bind (J.type.here ((looks_findIn I.kIn hn).here ?_))))))
    refine wpAny_bind (wpAny_askSetting (wpAny_ite ?_))
    have fin : wpAny (model X.prog X.w) X.A (call (.builtin "object.__ne__") ([.ref a] ++ [u]) >>= fun v => pure (some v)) (fun r s' => wpAny (model X.prog X.w) X.A (match r with | some .notImplemented | none => pure none | some v => pure (some v)) (fun r s' => ∃ v, r = some v ∧ EP X pins σ Q v s') X.xe s') X.xe s :=
      wpAny_bind (wpAny_mono cl (fun v s' h' => wpAny_pure (by
        have := back_of h'
        cases v <;> first | exact this.elim | exact wpAny_pure ⟨_, rfl, this⟩)) fun _ _ h' => h')
    split
    · exact wpAny_bind (wpAny_of_eq hb (wpAny_pure (by exact fin)))
    · exact wpAny_tryCatch (wpAny_bind (wpAny_of_eq hb (wpAny_pure (by exact fin))))
  show wpAny (model X.prog X.w) X.A (richCompare .NotEq (.ref a) u) (EP X pins σ Q) X.xe s
  unfold richCompare
  simp only [oneThing_ref]
  refine wpAny_holding (wpAny_bind (wpAny_cRoomFor hu ?_))
  refine wpAny_bind (J.type.here (wpAny_bind ((ty_looks I ry ty _).here ?_)))
  split
  · rename_i q
    have e : subIn X.K t (.ref C) = some false := by
      rcases Bool.or_eq_true_iff.mp ht with e | e
      · rw [beq_iff_eq.mp e] at q; simp at q
      · exact beq_iff_eq.mp e
    refine wpAny_bind ((looks_subIn I.kIn e).here ?_)
    simp only [Bool.false_eq_true, if_false]
    refine wpAny_bind (wpAny_mono one (fun r s' z => ?_) fun _ _ e => e)
    obtain ⟨v, rfl, hq⟩ := z
    exact wpAny_pure hq
  · refine wpAny_bind (wpAny_pure ?_)
    simp only [Bool.false_eq_true, if_false]
    refine wpAny_bind (wpAny_mono one (fun r s' z => ?_) fun _ _ e => e)
    obtain ⟨v, rfl, hq⟩ := z
    exact wpAny_pure hq
def rUnC (C : Addr) (sp : Sp) (E : XK) : V → Hp → VK → Prop := fun x H Q => isIns C H x ∧ sp [x] H Q E
theorem un_negC (hs : findIn X.K (.ref C) "__neg__" = some (some (.ref f))) (hf : isFn X.K (.ref f) = true) (F : CalOk X.prog X.w X.K X.mg X.base k (.ref f) [] sp) (hr : Room k X.A) (gd : X.A.guards = some []) (hx : Passes (L2.CX X.prog X.w) X E) : UnR X (unaryOp .USub) (rUnC C sp E) := by
  intro pins s σ H x v Q I rx hq
  obtain ⟨h1, h3⟩ := hq
  obtain ⟨a, dx, fs, rfl, ha⟩ := isIns_get h1
  obtain rfl : v = Value.ref a := rx
  obtain ⟨od, J⟩ := inst_of I ha
  obtain ⟨m, hF⟩ := I.fr
  exact ksp_neg hF I.ok.mod.kin J hs hf (run_subC F ⟨hr, rfl⟩ gd hx I (vs := [V.ref a]) (.cons rfl .nil) h3)
def rBoolC (C : Addr) (sp : Sp) (E : XK) : List V → Hp → VK → Prop := fun vs H Q => match vs with
  | [x] => isIns C H x ∧ sp [x] H (fun v H' => ∃ b, v = .bl b ∧ Q (.bl b) H') E
  | _ => False
theorem call_boolC (hs : findIn X.K (.ref C) "__bool__" = some (some (.ref f))) (hf : isFn X.K (.ref f) = true) (F : CalOk X.prog X.w X.K X.mg X.base k (.ref f) [] sp) (hr : Room (k + 2) X.A) (gd : X.A.guards = some []) (hx : Passes (L2.CX X.prog X.w) X E) : CallR X (.type "bool") (rBoolC C sp E) := by
  intro pins s σ H xs us Q I r h
  unfold rBoolC at h
  split at h
  · rename_i x
    obtain ⟨h1, h3⟩ := h
    obtain ⟨a, dx, fs, rfl, ha⟩ := isIns_get h1
    obtain ⟨u, rfl, ru⟩ := vals1 r
    obtain rfl : u = Value.ref a := ru
    obtain ⟨od, J⟩ := inst_of I ha
    obtain ⟨m, hF⟩ := I.fr
    refine callType_newIn PySem.F.called_bool PySem.F.newNe_bool (PySem.F.typeCall_bool_1 _) (PySem.F.newCall_bool_1 _) (fun obj => PySem.F.args_object_init_2 obj _) PySem.F.entry_bool_new bool_newO ?_
    refine truthy_K hF I.ok.mod.kin J hs hf ?_
    refine wpAny_mono (run_subC F (A := X.A.in1.in1) ⟨hr.in1.in1, rfl⟩ gd hx I (vs := [V.ref a]) (.cons rfl .nil) h3) (fun v s' z => ?_) fun _ _ e => e
    obtain ⟨y, H', I', ry, b, rfl, q⟩ := z
    obtain rfl : v = Value.bool b := ry
    exact ⟨rfl, .bl b, H', I', rfl, q⟩
  · exact h.elim
def rStrC (C : Addr) (sp : Sp) (E : XK) : List V → Hp → VK → Prop := fun vs H Q => match vs with
  | [x] => isIns C H x ∧ sp [x] H (fun v H' => ∃ z, v = .str z ∧ Q (.str z) H') E
  | _ => False
theorem call_strC (hs : findIn X.K (.ref C) "__str__" = some (some (.ref f))) (hf : isFn X.K (.ref f) = true) (F : CalOk X.prog X.w X.K X.mg X.base k (.ref f) [] sp) (hr : Room (k + 2) X.A) (gd : X.A.guards = some []) (hx : Passes (L2.CX X.prog X.w) X E) : CallR X (.type "str") (rStrC C sp E) := by
  intro pins s σ H xs us Q I r h
  unfold rStrC at h
  split at h
  · rename_i x
    obtain ⟨h1, h3⟩ := h
    obtain ⟨a, dx, fs, rfl, ha⟩ := isIns_get h1
    obtain ⟨u, rfl, ru⟩ := vals1 r
    obtain rfl : u = Value.ref a := ru
    obtain ⟨od, J⟩ := inst_of I ha
    refine callType_newIn PySem.F.called_str (by decide) (PySem.F.typeCall_str_1 _) (PySem.F.newCall_str_1 _) (fun obj => PySem.F.args_object_init_2 obj _) PySem.F.entry_str_new str_newO ?_
    refine strOf_own hr.in1.in1.units0 I.kIn J hs hf ?_
    refine wpAny_mono (run_subC F (A := X.A.in1.in1) ⟨hr.in1.in1, rfl⟩ gd hx I (vs := [V.ref a]) (.cons rfl .nil) h3) (fun v s' z => ?_) fun _ _ e => e
    obtain ⟨y, H', I', ry, b, rfl, q⟩ := z
    obtain ⟨t, rfl⟩ := ry
    exact ⟨_, _, rfl, typeIs_str _ _ _, .str b, H', I', ⟨t, rfl⟩, q⟩
  · exact h.elim
end
end Dl

set_option maxHeartbeats 4000000
/-! DLD: operators over plain data, the classes' own ones among them. -/
namespace Dl
open PySem PySem.W L2 PyProof.Rows
open Wp (isIns isIns_get rTy rTy_get ty_looks inst_of back_of own_left1 own_right1 NumT)
theorem fillsT {U nm : String} {f r : Option Value} (h1 : builtinLookup U (PySem.dunder nm) = some f) (h2 : builtinLookup U (PySem.dunderR nm) = some r) : fillsNumberSlot (.type U) nm = pure ((f.isSome && !isSeqSlot f) || (r.isSome && !isSeqSlot r)) := by
  simp only [fillsNumberSlot, typeLookup_type, h1, h2, pure_bind]
theorem lookT {U : String} {name : Str} (h : (builtinMro U).isSome = true) : ∃ r, builtinLookup U name = some r := by
  unfold builtinLookup
  cases q : builtinMro U with
  | none => rw [q] at h; cases h
  | some m => exact ⟨_, rfl⟩
/-- the built-in kinds of plain data -/
def kinds : List String := ["NoneType", "bool", "int", "str", "list", "tuple", "dict"]
theorem mro_kinds : ∀ U ∈ kinds, (builtinMro U).isSome = true := by
  intro U h
  rw [builtinMro_eq_fast]
  have : ∀ U ∈ kinds, (fastBuiltinMro U).isSome = true := by decide +kernel
  exact this U h
theorem numT_kind {K : Frag} {C : Addr} {nm U : String} (h : U ∈ kinds) (hs : subIn K (.type U) (.ref C) = some false) : NumT K C nm (.type U) := by
  obtain ⟨f, hf⟩ := lookT (name := PySem.dunder nm) (mro_kinds U h)
  obtain ⟨r, hr⟩ := lookT (name := PySem.dunderR nm) (mro_kinds U h)
  exact .inr ⟨U, _, r, rfl, fillsT hf hr, hs, by rw [typeLookup_type, hr]⟩
theorem bool_add_ref {prog : Program} {w : World} {A : Around} {E : Value → Shared → Prop} {s : Shared} {x : Addr} {ox : Obj} {a : Bool} {Q : Value → Shared → Prop} (hx : s.heap.get? x = some ox) (hd : ox.data = .plain)
    (h : Q .notImplemented s) : wpAny (model prog w) A (call (.builtin "int.__add__") [.bool a, .ref x]) Q E s := by
  obtain ⟨oc, od, dt, sl⟩ := ox
  simp only at hd
  subst hd
  refine GQ.call_here PySem.F.slot_bool_add (PySem.typeIs_bool s a) PySem.F.entry_int_add (PySem.F.args_int_add_2 _ _) ?_
  obtain ⟨hp, g, d, tk, os⟩ := s
  wp_walk using AutoSeq1.wpAny_loadPart' hx
  exact h
theorem bool_sub_ref {prog : Program} {w : World} {A : Around} {E : Value → Shared → Prop} {s : Shared} {x : Addr} {ox : Obj} {a : Bool} {Q : Value → Shared → Prop} (hx : s.heap.get? x = some ox) (hd : ox.data = .plain)
    (h : Q .notImplemented s) : wpAny (model prog w) A (call (.builtin "int.__sub__") [.bool a, .ref x]) Q E s := by
  obtain ⟨oc, od, dt, sl⟩ := ox
  simp only at hd
  subst hd
  refine GQ.call_here PySem.F.slot_bool_sub (PySem.typeIs_bool s a) PySem.F.entry_int_sub (PySem.F.args_int_sub_2 _ _) ?_
  obtain ⟨hp, g, d, tk, os⟩ := s
  wp_walk using AutoSeq1.wpAny_loadPart' hx
  exact h
theorem bool_mul_ref {prog : Program} {w : World} {A : Around} {E : Value → Shared → Prop} {s : Shared} {x : Addr} {ox : Obj} {a : Bool} {Q : Value → Shared → Prop} (hx : s.heap.get? x = some ox) (hd : ox.data = .plain)
    (h : Q .notImplemented s) : wpAny (model prog w) A (call (.builtin "int.__mul__") [.bool a, .ref x]) Q E s := by
  obtain ⟨oc, od, dt, sl⟩ := ox
  simp only at hd
  subst hd
  refine GQ.call_here PySem.F.slot_bool_mul (PySem.typeIs_bool s a) PySem.F.entry_int_mul (PySem.F.args_int_mul_2 _ _) ?_
  obtain ⟨hp, g, d, tk, os⟩ := s
  wp_walk using AutoSeq1.wpAny_loadPart' hx
  exact h
theorem bool_floordiv_ref {prog : Program} {w : World} {A : Around} {E : Value → Shared → Prop} {s : Shared} {x : Addr} {ox : Obj} {a : Bool} {Q : Value → Shared → Prop} (hx : s.heap.get? x = some ox) (hd : ox.data = .plain)
    (h : Q .notImplemented s) : wpAny (model prog w) A (call (.builtin "int.__floordiv__") [.bool a, .ref x]) Q E s := by
  obtain ⟨oc, od, dt, sl⟩ := ox
  simp only at hd
  subst hd
  refine GQ.call_here PySem.F.slot_bool_floordiv (PySem.typeIs_bool s a) PySem.F.entry_int_floordiv (PySem.F.args_int_floordiv_2 _ _) ?_
  obtain ⟨hp, g, d, tk, os⟩ := s
  wp_walk using AutoSeq1.wpAny_loadPart' hx
  exact h
theorem bool_mod_ref {prog : Program} {w : World} {A : Around} {E : Value → Shared → Prop} {s : Shared} {x : Addr} {ox : Obj} {a : Bool} {Q : Value → Shared → Prop} (hx : s.heap.get? x = some ox) (hd : ox.data = .plain)
    (h : Q .notImplemented s) : wpAny (model prog w) A (call (.builtin "int.__mod__") [.bool a, .ref x]) Q E s := by
  obtain ⟨oc, od, dt, sl⟩ := ox
  simp only at hd
  subst hd
  refine GQ.call_here PySem.F.slot_bool_mod (PySem.typeIs_bool s a) PySem.F.entry_int_mod (PySem.F.args_int_mod_2 _ _) ?_
  obtain ⟨hp, g, d, tk, os⟩ := s
  wp_walk using AutoSeq1.wpAny_loadPart' hx
  exact h
/-- what a number, a truth value, None, a dict on the left of an operator does: it declines -/
structure Refl (nm : String) : Prop where
  ex : ∃ id, Slot "int" (PySem.dunder nm) id ∧ Slot "bool" (PySem.dunder nm) id ∧
    (∀ {prog : Program} {w : World} {A : Around} {E : Value → Shared → Prop} {s : Shared} {x : Addr} {ox : Obj} {a : Int} {t : Tok} {Q : Value → Shared → Prop}, s.heap.get? x = some ox → ox.data = .plain → Q .notImplemented s → wpAny (model prog w) A (call (.builtin id) [.int a t, .ref x]) Q E s) ∧
    (∀ {prog : Program} {w : World} {A : Around} {E : Value → Shared → Prop} {s : Shared} {x : Addr} {ox : Obj} {a : Bool} {Q : Value → Shared → Prop}, s.heap.get? x = some ox → ox.data = .plain → Q .notImplemented s → wpAny (model prog w) A (call (.builtin id) [.bool a, .ref x]) Q E s)
  fi : fillsNumberSlot (.type "int") nm = pure true
  fb : fillsNumberSlot (.type "bool") nm = pure true
  fn : fillsNumberSlot (.type "NoneType") nm = pure false
  fd : fillsNumberSlot (.type "dict") nm = pure false
theorem refl_add : Refl "add" where
  ex := ⟨_, PySem.F.slot_int_add, PySem.F.slot_bool_add, fun h1 h2 q => Wp.int_add_ref h1 h2 q, fun h1 h2 q => bool_add_ref h1 h2 q⟩
  fi := PySem.F.fills_int_add
  fb := PySem.F.fills_bool_add
  fn := by rw [fillsT (f := none) (r := none) (by rw [builtinLookup_eq_fast]; kernel_rfl) (by rw [builtinLookup_eq_fast]; kernel_rfl)] <;> rfl
  fd := by rw [fillsT (f := none) (r := none) (by rw [builtinLookup_eq_fast]; kernel_rfl) (by rw [builtinLookup_eq_fast]; kernel_rfl)] <;> rfl
theorem refl_sub : Refl "sub" where
  ex := ⟨_, PySem.F.slot_int_sub, PySem.F.slot_bool_sub, fun h1 h2 q => Wp.int_sub_ref h1 h2 q, fun h1 h2 q => bool_sub_ref h1 h2 q⟩
  fi := PySem.F.fills_int_sub
  fb := PySem.F.fills_bool_sub
  fn := by rw [fillsT (f := none) (r := none) (by rw [builtinLookup_eq_fast]; kernel_rfl) (by rw [builtinLookup_eq_fast]; kernel_rfl)] <;> rfl
  fd := by rw [fillsT (f := none) (r := none) (by rw [builtinLookup_eq_fast]; kernel_rfl) (by rw [builtinLookup_eq_fast]; kernel_rfl)] <;> rfl
theorem refl_mul : Refl "mul" where
  ex := ⟨_, PySem.F.slot_int_mul, PySem.F.slot_bool_mul, fun h1 h2 q => Wp.int_mul_ref h1 h2 q, fun h1 h2 q => bool_mul_ref h1 h2 q⟩
  fi := PySem.F.fills_int_mul
  fb := PySem.F.fills_bool_mul
  fn := by rw [fillsT (f := none) (r := none) (by rw [builtinLookup_eq_fast]; kernel_rfl) (by rw [builtinLookup_eq_fast]; kernel_rfl)] <;> rfl
  fd := by rw [fillsT (f := none) (r := none) (by rw [builtinLookup_eq_fast]; kernel_rfl) (by rw [builtinLookup_eq_fast]; kernel_rfl)] <;> rfl
theorem refl_floordiv : Refl "floordiv" where
  ex := ⟨_, PySem.F.slot_int_floordiv, PySem.F.slot_bool_floordiv, fun h1 h2 q => Wp.int_floordiv_ref h1 h2 q, fun h1 h2 q => bool_floordiv_ref h1 h2 q⟩
  fi := PySem.F.fills_int_floordiv
  fb := PySem.F.fills_bool_floordiv
  fn := by rw [fillsT (f := none) (r := none) (by rw [builtinLookup_eq_fast]; kernel_rfl) (by rw [builtinLookup_eq_fast]; kernel_rfl)] <;> rfl
  fd := by rw [fillsT (f := none) (r := none) (by rw [builtinLookup_eq_fast]; kernel_rfl) (by rw [builtinLookup_eq_fast]; kernel_rfl)] <;> rfl
theorem refl_mod : Refl "mod" where
  ex := ⟨_, PySem.F.slot_int_mod, PySem.F.slot_bool_mod, fun h1 h2 q => Wp.int_mod_ref h1 h2 q, fun h1 h2 q => bool_mod_ref h1 h2 q⟩
  fi := PySem.F.fills_int_mod
  fb := PySem.F.fills_bool_mod
  fn := by rw [fillsT (f := none) (r := none) (by rw [builtinLookup_eq_fast]; kernel_rfl) (by rw [builtinLookup_eq_fast]; kernel_rfl)] <;> rfl
  fd := by rw [fillsT (f := none) (r := none) (by rw [builtinLookup_eq_fast]; kernel_rfl) (by rw [builtinLookup_eq_fast]; kernel_rfl)] <;> rfl
section
variable {X : Cx} {W : Wd} {B : Bs} {E : XK} {n : Nat} {op : Operator}
def call1 (g : List Sl → RF) (x : D) : R D := match g [.pu x] with
  | .ok (d, _) => .ok d
  | .exc e => .exc e
  | .bad => .bad
def call2 (g : List Sl → RF) (x y : D) : R D := match g [.pu x, .pu y] with
  | .ok (d, _) => .ok d
  | .exc e => .exc e
  | .bad => .bad
theorem call1_of {g : List Sl → RF} {F H : Hp} {Q : VK} {v : V} {d : D} (bs : PStep W B.A B.F B.H F H) (r : Rep W F v d) (w : Out W B E F H (call1 g d) Q) : spT W false g [v] H Q E := by
  have ea : adr [v] [.pu d] = [] := by cases v <;> rfl
  refine ⟨F, [.pu d], bs.sub, bs.tabs, ⟨r, trivial⟩, ?_⟩
  rw [ea]
  unfold call1 at w
  cases e : g [.pu d] with
  | ok p =>
    obtain ⟨x, outs⟩ := p
    rw [e] at w
    exact fun F' H' v' p _ r' => w F' H' v' p r'
  | exc x => rw [e] at w; exact fun F' H' dd p xr => w F' H' dd (bs.trans0 p) xr
  | bad => rw [e] at w; exact w
theorem call2_of {g : List Sl → RF} {F H : Hp} {Q : VK} {v u : V} {d e : D} (bs : PStep W B.A B.F B.H F H) (r : Rep W F v d) (r2 : Rep W F u e) (w : Out W B E F H (call2 g d e) Q) : spT W false g [v, u] H Q E := by
  have ea : adr [v, u] [.pu d, .pu e] = [] := by cases v <;> cases u <;> rfl
  refine ⟨F, [.pu d, .pu e], bs.sub, bs.tabs, ⟨r, r2, trivial⟩, ?_⟩
  rw [ea]
  unfold call2 at w
  cases e : g [.pu d, .pu e] with
  | ok p =>
    obtain ⟨x, outs⟩ := p
    rw [e] at w
    exact fun F' H' v' p _ r' => w F' H' v' p r'
  | exc x => rw [e] at w; exact fun F' H' dd p xr => w F' H' dd (bs.trans0 p) xr
  | bad => rw [e] at w; exact w
/-- may stand beside an instance of the class c -/
def besides (c : Nat) : D → Bool
  | .ins c' _ _ => c' == c
  | .exc _ _ _ => false
  | .fn _ => false
  | .slc _ => false
  | _ => true
theorem ty_of {K : Frag} {F H : Hp} {v : V} {d : D} {c : Nat} {P : Value → Prop} (hK : K = W.K) (s : Le F H) (r : Rep W F v d) (hb : besides c d = true) (hk : ∀ U ∈ kinds, P (.type U)) (hc : P (.ref (W.cl c))) : rTy K v H P := by
  cases d with
  | non => cases r; exact hk _ (by decide)
  | bl b => cases r; exact hk _ (by decide)
  | int i => cases r; exact hk _ (by decide)
  | str z => obtain ⟨y, rfl, _⟩ := r; exact hk _ (by decide)
  | lst xs => obtain ⟨p, vs, rfl, h, _⟩ := r; unfold rTy; simp only [s _ _ h]; exact hk _ (by decide)
  | tup xs => obtain ⟨p, vs, rfl, h, _⟩ := r; unfold rTy; simp only [s _ _ h]; exact hk _ (by decide)
  | dct ks xs => obtain ⟨p, vs, rfl, h, _⟩ := r; unfold rTy; simp only [s _ _ h]; exact hk _ (by decide)
  | ins c' ns ds =>
    obtain ⟨p, dx, fvs, rfl, h, ci, _⟩ := r
    have e : c' = c := by simpa [besides] using hb
    subst e
    unfold rTy
    simp only [s _ _ h]
    exact ⟨by rw [hK]; exact ci.1, hc⟩
  | exc c' ns ds => cases hb
  | fn i => cases hb
  | slc xs => cases hb
def binD (mt rt : Nat → Option (List Sl → RF)) (base : D → D → R D) (x y : D) : R D := match x with
  | .ins c _ _ => (match mt c with
    | some g => if besides c y then call2 g x y else .bad
    | none => .bad)
  | _ => (match y with
    | .ins c _ _ => (match rt c with
      | some g => (match x with
        | .int _ => call2 g y x
        | .bl _ => call2 g y x
        | .non => call2 g y x
        | .dct _ _ => call2 g y x
        | _ => .bad)
      | none => .bad)
    | _ => base x y)
/-- the class's own operator -/
structure OpL (X : Cx) (W : Wd) (n : Nat) (nm : String) (c : Nat) (g : List Sl → RF) : Prop where
  ex : ∃ f, BinL X.K (W.cl c) nm f ∧ CalOk X.prog X.w X.K X.mg X.base n (.ref f) [] (spT W false g)
  sub : ∀ U ∈ kinds, subIn X.K (.type U) (.ref (W.cl c)) = some false
/-- .. reflected -/
structure OpRr (X : Cx) (W : Wd) (n : Nat) (nm : String) (c : Nat) (g : List Sl → RF) : Prop where
  rf : Refl nm
  ex : ∃ f h, findIn X.K (.ref (W.cl c)) (PySem.dunderR nm) = some (some (.ref f)) ∧ isFn X.K (.ref f) = true ∧ findIn X.K (.ref (W.cl c)) (PySem.dunder nm) = some (some (.ref h)) ∧ CalOk X.prog X.w X.K X.mg X.base n (.ref f) [] (spT W false g)
  sub : ∀ U ∈ kinds, subIn X.K (.ref (W.cl c)) (.type U) = some false
theorem v_bin {mt rt : Nat → Option (List Sl → RF)} {base : D → D → R D} (hK : X.K = W.K) (hr : Room n X.A) (gd : X.A.guards = some []) (hx : Passes (L2.CX X.prog X.w) X E) (hb : OpR X (binaryOp op) (rV2 W B E base))
    (hmt : ∀ c g, mt c = some g → OpL X W n op.info.2 c g) (hrt : ∀ c g, rt c = some g → OpRr X W n op.info.2 c g) : OpR X (binaryOp op) (rV2 W B E (binD mt rt base)) := by
  intro pins s σ H x y v u Q I rx ry h
  obtain ⟨F, d, e, bs, r1, r2, w⟩ := h
  have main : (∀ c ns ds, d ≠ .ins c ns ds) → wpAny (model X.prog X.w) X.A (binaryOp op v u) (EP X pins σ Q) X.xe s := fun nd => by
    by_cases he : ∃ c ns ds, e = .ins c ns ds
    · obtain ⟨c, ns, ds, rfl⟩ := he
      have w0 := w
      have ci : Wp.InsK X.K (W.cl c) := by obtain ⟨_, _, _, _, _, ci, _⟩ := r2; rw [hK]; exact ci.1
      have r20 := r2
      obtain ⟨a, dx, fvs, rfl, ha, _, _, _⟩ := r2
      obtain rfl : u = Value.ref a := ry
      obtain ⟨od, J⟩ := inst_of I (bs.sub _ _ ha)
      have dp : (instObj (W.cl c) dx).data = .plain := rfl
      unfold binaryOp
      have fin : wpAny (model X.prog X.w) X.A (binaryOp1 op.info.2 v (.ref a)) (fun r s' => ∃ z, r = some z ∧ EP X pins σ Q z s') X.xe s := by
        have cal : ∀ g, rt c = some g → Out W B E F H (call2 g (.ins c ns ds) d) Q → ∀ f, CalOk X.prog X.w X.K X.mg X.base n (.ref f) [] (spT W false g) → wpAny (model X.prog X.w) X.A (call (.ref f) [.ref a, v]) (PySem.W.CmpBack fun v s' => ∃ z, (some v : Option Value) = some z ∧ EP X pins σ Q z s') X.xe s := fun g _ w f C => by
          refine wpAny_mono (run_subC C ⟨hr, rfl⟩ gd hx I (vs := [V.ref a, x]) (.cons rfl (.cons rx .nil)) (call2_of bs r20 r1 w)) (fun w' s' z => ?_) fun _ _ e => e
          have := back_of z
          cases w' <;> first | exact this.elim | exact ⟨_, rfl, this⟩
        cases q : rt c with
        | none => exfalso; cases d <;> first | exact nd _ _ _ rfl | (simp only [binD, q] at w; exact w)
        | some g =>
          obtain ⟨rf, ⟨f, h', hf1, hf2, hf3, C⟩, sub⟩ := hrt c g q
          cases d with
          | int i =>
            simp only [binD, q] at w
            cases r1
            obtain ⟨t, rfl⟩ := rx
            obtain ⟨id, sl, _, dec, _⟩ := rf.ex
            refine own_right1 (lb := true) (fun s' kp => I.kIn.keeps kp) J (Looks.of_pure (PySem.typeIs_int s i t)) ci.sf hf1 hf2 hf3 ⟨_, rfl⟩ rf.fi (sub _ (by decide)) (fun _ => ?_) (fun z => by cases z)
            exact wpAny_tryMethod_declines (PySem.typeIs_int s i t) sl (dec J.at_ rfl ⟨rfl, rfl, fun _ _ e => e, cal g q w f C⟩)
          | bl b =>
            simp only [binD, q] at w
            cases r1
            cases rx
            obtain ⟨id, _, sl, _, dec⟩ := rf.ex
            refine own_right1 (lb := true) (fun s' kp => I.kIn.keeps kp) J (Looks.of_pure (PySem.typeIs_bool s b)) ci.sf hf1 hf2 hf3 ⟨_, rfl⟩ rf.fb (sub _ (by decide)) (fun _ => ?_) (fun z => by cases z)
            exact wpAny_tryMethod_declines (PySem.typeIs_bool s b) sl (dec J.at_ rfl ⟨rfl, rfl, fun _ _ e => e, cal g q w f C⟩)
          | non =>
            simp only [binD, q] at w
            have ty := ty_looks I rx (t := .type "NoneType") (by cases r1; exact .base .non) (model X.prog X.w)
            exact own_right1 (lb := false) (fun s' kp => I.kIn.keeps kp) J ty ci.sf hf1 hf2 hf3 ⟨_, rfl⟩ rf.fn (sub _ (by decide)) (fun z => by cases z) (fun _ => cal g q w f C)
          | dct ks xs =>
            simp only [binD, q] at w
            have ty := ty_looks I rx (t := .type "dict") (by obtain ⟨p, kvs, rfl, hp, _⟩ := r1; exact .base (.dK (bs.sub _ _ hp))) (model X.prog X.w)
            exact own_right1 (lb := false) (fun s' kp => I.kIn.keeps kp) J ty ci.sf hf1 hf2 hf3 ⟨_, rfl⟩ rf.fd (sub _ (by decide)) (fun z => by cases z) (fun _ => cal g q w f C)
          | ins c ns ds => exact absurd rfl (nd _ _ _)
          | _ => simp only [binD, q] at w; exact w.elim
      refine wpAny_holding (wpAny_bind (wpAny_mono fin (fun r s' z => ?_) fun _ _ e => e))
      obtain ⟨z, rfl, q⟩ := z
      exact wpAny_pure q
    · refine hb pins s σ H x y v u Q I rx ry ⟨F, d, e, bs, r1, r2, ?_⟩
      have : binD mt rt base d e = base d e := by
        cases d <;> first | exact absurd rfl (nd _ _ _) | (cases e <;> first | rfl | exact absurd ⟨_, _, _, rfl⟩ he)
      rw [this] at w
      exact w
  by_cases hd : ∃ c ns ds, d = .ins c ns ds
  · obtain ⟨c, ns, ds, rfl⟩ := hd
    simp only [binD] at w
    cases q : mt c with
    | none => rw [q] at w; exact w.elim
    | some g =>
      rw [q] at w
      simp only at w
      split at w
      · rename_i hbs
        obtain ⟨⟨f, BL, C⟩, sub⟩ := hmt c g q
        have ci : Wp.InsK X.K (W.cl c) := by obtain ⟨_, _, _, _, _, ci, _⟩ := r1; rw [hK]; exact ci.1
        have r10 := r1
        obtain ⟨a, dx, fvs, rfl, ha, _, _, _⟩ := r1
        refine op_ownLC (op := op) ci.sf BL C hr gd hx rfl pins s σ H _ y v u Q I rx ry ⟨Wp.s_ins (bs.sub _ _ ha), ty_of hK bs.sub r2 hbs (fun U hU => numT_kind hU (sub U hU)) (.inl rfl), call2_of bs r10 r2 w⟩
      · exact w.elim
  · exact main fun c ns ds z => hd ⟨c, ns, ds, z⟩
end
end Dl

set_option maxHeartbeats 4000000
/-! DLE: order. -/
namespace Dl
open PySem PySem.W L2 PyProof.Rows
open Wp (isIns isIns_get rTy rTy_get ty_looks inst_of back_of)
section
variable {X : Cx} {W : Wd} {B : Bs} {E : XK} {n : Nat}
def ltD : D → D → R D
  | .int i, .int j => .ok (.bl (decide (i < j)))
  | .str a, .str b => .ok (.bl (decide (a < b)))
  | _, _ => .bad
def leD : D → D → R D
  | .int i, .int j => .ok (.bl (decide (i ≤ j)))
  | .str a, .str b => .ok (.bl (!decide (b < a)))
  | _, _ => .bad
def gtD : D → D → R D
  | .int i, .int j => .ok (.bl (decide (j < i)))
  | .str a, .str b => .ok (.bl (decide (b < a)))
  | _, _ => .bad
def geD : D → D → R D
  | .int i, .int j => .ok (.bl (decide (j ≤ i)))
  | .str a, .str b => .ok (.bl (!decide (a < b)))
  | _, _ => .bad
theorem v_lt : OpR X (compareOp .Lt) (rV2 W B E ltD) := by
  intro pins s σ H x y v u Q I rx ry h
  obtain ⟨F, d, e, bs, r1, r2, w⟩ := h
  cases d with
  | int i => cases e with
    | int j => cases r1; cases r2; exact op_lt pins s σ H _ _ v u Q I rx ry ⟨i, j, rfl, rfl, out_flat bs w rfl⟩
    | _ => exact w.elim
  | str a => cases e with
    | str b => obtain ⟨z1, rfl, rfl, _⟩ := r1; obtain ⟨z2, rfl, rfl, _⟩ := r2; exact op_lt_str pins s σ H _ _ v u Q I rx ry ⟨z1, z2, rfl, rfl, out_flat bs w rfl⟩
    | _ => exact w.elim
  | _ => exact w.elim
theorem v_le : OpR X (compareOp .LtE) (rV2 W B E leD) := by
  intro pins s σ H x y v u Q I rx ry h
  obtain ⟨F, d, e, bs, r1, r2, w⟩ := h
  cases d with
  | int i => cases e with
    | int j => cases r1; cases r2; exact op_le pins s σ H _ _ v u Q I rx ry ⟨i, j, rfl, rfl, out_flat bs w rfl⟩
    | _ => exact w.elim
  | str a => cases e with
    | str b => obtain ⟨z1, rfl, rfl, _⟩ := r1; obtain ⟨z2, rfl, rfl, _⟩ := r2; exact op_le_str pins s σ H _ _ v u Q I rx ry ⟨z1, z2, rfl, rfl, out_flat bs w rfl⟩
    | _ => exact w.elim
  | _ => exact w.elim
theorem v_gt : OpR X (compareOp .Gt) (rV2 W B E gtD) := by
  intro pins s σ H x y v u Q I rx ry h
  obtain ⟨F, d, e, bs, r1, r2, w⟩ := h
  cases d with
  | int i => cases e with
    | int j => cases r1; cases r2; exact op_gt pins s σ H _ _ v u Q I rx ry ⟨i, j, rfl, rfl, out_flat bs w rfl⟩
    | _ => exact w.elim
  | str a => cases e with
    | str b => obtain ⟨z1, rfl, rfl, _⟩ := r1; obtain ⟨z2, rfl, rfl, _⟩ := r2; exact op_gt_str pins s σ H _ _ v u Q I rx ry ⟨z1, z2, rfl, rfl, out_flat bs w rfl⟩
    | _ => exact w.elim
  | _ => exact w.elim
theorem v_ge : OpR X (compareOp .GtE) (rV2 W B E geD) := by
  intro pins s σ H x y v u Q I rx ry h
  obtain ⟨F, d, e, bs, r1, r2, w⟩ := h
  cases d with
  | int i => cases e with
    | int j => cases r1; cases r2; exact op_ge pins s σ H _ _ v u Q I rx ry ⟨i, j, rfl, rfl, out_flat bs w rfl⟩
    | _ => exact w.elim
  | str a => cases e with
    | str b => obtain ⟨z1, rfl, rfl, _⟩ := r1; obtain ⟨z2, rfl, rfl, _⟩ := r2; exact op_ge_str pins s σ H _ _ v u Q I rx ry ⟨z1, z2, rfl, rfl, out_flat bs w rfl⟩
    | _ => exact w.elim
  | _ => exact w.elim
/-- a comparison, an own one on the left -/
def ordD (mt : Nat → Option (List Sl → RF)) (base : D → D → R D) (x y : D) : R D := match x with
  | .ins c _ _ => (match mt c with
    | some g => if besides c y then call2 g x y else .bad
    | none => .bad)
  | _ => base x y
structure CmL (X : Cx) (W : Wd) (n : Nat) (nm : Str) (c : Nat) (g : List Sl → RF) : Prop where
  ex : ∃ f, findIn X.K (.ref (W.cl c)) nm = some (some (.ref f)) ∧ isFn X.K (.ref f) = true ∧ CalOk X.prog X.w X.K X.mg X.base n (.ref f) [] (spT W false g)
  sub : ∀ U ∈ kinds, subIn X.K (.type U) (.ref (W.cl c)) = some false
theorem nf_kind {K : Frag} {C : Addr} {U : String} (hs : subIn K (.type U) (.ref C) = some false) : notFirst K C (.type U) = true := by
  unfold notFirst; simp [hs]
theorem nf_same {K : Frag} {C : Addr} : notFirst K C (.ref C) = true := by unfold notFirst; simp
theorem v_ord {op : CmpOp} {mt : Nat → Option (List Sl → RF)} {base : D → D → R D} (ho : ∀ a b, compareOp op a b = richCompare op a b) (hK : X.K = W.K) (hr : Room n X.A) (gd : X.A.guards = some []) (hx : Passes (L2.CX X.prog X.w) X E) (hb : OpR X (compareOp op) (rV2 W B E base))
    (hmt : ∀ c g, mt c = some g → CmL X W n (cmpInfo op).2.1 c g) : OpR X (compareOp op) (rV2 W B E (ordD mt base)) := by
  intro pins s σ H x y v u Q I rx ry h
  obtain ⟨F, d, e, bs, r1, r2, w⟩ := h
  by_cases hd : ∃ c ns ds, d = .ins c ns ds
  · obtain ⟨c, ns, ds, rfl⟩ := hd
    simp only [ordD] at w
    cases q : mt c with
    | none => rw [q] at w; exact w.elim
    | some g =>
      rw [q] at w
      simp only at w
      split at w
      · rename_i hbs
        obtain ⟨⟨f, h1, h2, C⟩, sub⟩ := hmt c g q
        have r10 := r1
        obtain ⟨a, dx, fvs, rfl, ha, _, _, _⟩ := r1
        exact op_cmpC (op := op) ho h1 h2 C hr gd hx rfl pins s σ H _ y v u Q I rx ry ⟨Wp.s_ins (bs.sub _ _ ha), ty_of hK bs.sub r2 hbs (fun U hU => nf_kind (sub U hU)) nf_same, call2_of bs r10 r2 w⟩
      · exact w.elim
  · refine hb pins s σ H x y v u Q I rx ry ⟨F, d, e, bs, r1, r2, ?_⟩
    have : ordD mt base d e = base d e := by
      cases d <;> first | rfl | exact absurd ⟨_, _, _, rfl⟩ hd
    rw [this] at w
    exact w
/-! ### is None -/
def isNon : D → Bool
  | .non => true
  | _ => false
def isND (x y : D) : R D := match y with
  | .non => .ok (.bl (isNon x))
  | _ => .bad
def notND (x y : D) : R D := match y with
  | .non => .ok (.bl (!isNon x))
  | _ => .bad
theorem non_of {F : Hp} {v : V} {d : D} (r : Rep W F v d) : decide (v = .non) = isNon d := by
  cases d with
  | non => cases r; rfl
  | bl b => cases r; rfl
  | int i => cases r; rfl
  | str z => obtain ⟨y, rfl, _⟩ := r; rfl
  | lst xs => obtain ⟨p, vs, rfl, _⟩ := r; rfl
  | tup xs => obtain ⟨p, vs, rfl, _⟩ := r; rfl
  | dct ks xs => obtain ⟨p, vs, rfl, _⟩ := r; rfl
  | ins c ns ds => obtain ⟨p, dx, fvs, rfl, _⟩ := r; rfl
  | exc c ns ds => obtain ⟨p, dx, fvs, rfl, _⟩ := r; rfl
  | fn i => cases r; rfl
  | slc xs => obtain ⟨p, vs, rfl, _⟩ := r; rfl
theorem v_isN : OpR X (compareOp .Is) (rV2 W B E isND) := by
  intro pins s σ H x y v u Q I rx ry h
  obtain ⟨F, d, e, bs, r1, r2, w⟩ := h
  cases e with
  | non => cases r2; exact op_isN pins s σ H _ _ v u Q I rx ry ⟨rfl, out_flat bs w (by rw [non_of r1]; rfl)⟩
  | _ => exact w.elim
theorem v_notN : OpR X (compareOp .IsNot) (rV2 W B E notND) := by
  intro pins s σ H x y v u Q I rx ry h
  obtain ⟨F, d, e, bs, r1, r2, w⟩ := h
  cases e with
  | non => cases r2; exact op_notN pins s σ H _ _ v u Q I rx ry ⟨rfl, out_flat bs w (by rw [non_of r1]; rfl)⟩
  | _ => exact w.elim
end
end Dl

set_option maxHeartbeats 4000000
/-! DLF: == and != of lists and tuples, item by item, whatever the items are. -/
namespace Dl
open PySem PySem.W L2 PyProof.Rows
open PySem.SeqAt MeetsSeq MeetsSeq2 MeetsSeq3 SeqRoads2
open AutoSeq1 (wpAny_loadPart')
section
variable {prog : Program} {w : World} {A : Around} {R : Result → Shared → Prop}
/-- the two lists as they stand -/
def TwoL (l b : Addr) (N : Nat) (items items2 : Array Value) (s : Shared) : Prop := ∃ n n2 : Nat, s.heap.get? l = some { cls := .type "list", data := .seq items n } ∧ s.heap.get? b = some { cls := .type "list", data := .seq items2 n2 } ∧ items.size = N ∧ items2.size = N
/-- at each turn: the i-th two are compared; unlike ones end it -/
def TurnL (prog : Program) (w : World) (A : Around) (R : Result → Shared → Prop) (neg : Bool) (l b : Addr) (N : Nat) (I : Nat → Shared → Prop) : Prop :=
  ∀ i s, I i s → ∃ items items2 : Array Value, TwoL l b N items items2 s ∧ ∀ (h1 : i < items.size) (h2 : i < items2.size),
    wpAny (model prog w) A.in1 (eqBool items[i] items2[i]) (fun r s' => if r = true then I (i + 1) s' else (∃ its its2, TwoL l b N its its2 s') ∧ R (.ok (.ret (.bool neg))) s') (fun e s' => R (.error e) s') s
theorem eq_loopB (l b : Addr) (N : Nat) (I : Nat → Shared → Prop) (hl : TurnL prog w A R false l b N I) (fin : ∀ s, I N s → R (.ok (.ret (.bool true))) s) (k : Nat) :
    ∀ i : Nat, N - i = k → i ≤ N → ∀ s, I i s → wpAny (model prog w) A.in1 (Builtin.«list.__eq__.loop» ⟨[.ref l, .ref b, rawInt i, rawInt 2], []⟩) (GQ.FinOf prog w A R) (fun e s' => R (.error e) s') s := by
  induction k with
  | zero =>
    intro i hk hi s h
    obtain ⟨items, items2, ⟨n, n2, hl1, hb1, hs1, hs2⟩, _⟩ := hl _ _ h
    have hi' : i = N := by omega
    have hR : R (.ok (.ret (.bool true))) s := fin s (hi' ▸ h)
    obtain ⟨hp, g, d, tk, os⟩ := s
    wp_walk using wpAny_loadPart' hl1, wpAny_loadPart' hb1
    have hi1 : items[((i : Nat) : Int).toNat]? = none := by simp; omega
    have hi2 : items2[((i : Nat) : Int).toNat]? = none := by simp; omega
    rw [hi1, hi2]
    wp_walk using wpAny_loadPart' hl1, wpAny_loadPart' hb1
    show R (.ok (.ret (.bool (items.size == items2.size)))) _
    rw [hs1, hs2]
    simpa using hR
  | succ k ih =>
    intro i hk hi s h
    obtain ⟨items, items2, ⟨n, n2, hl1, hb1, hs1, hs2⟩, turn⟩ := hl _ _ h
    have hlt : i < items.size := by omega
    have hlt2 : i < items2.size := by omega
    have ht := turn hlt hlt2
    obtain ⟨hp, g, d, tk, os⟩ := s
    wp_walk using wpAny_loadPart' hl1, wpAny_loadPart' hb1
    have hi1 : items[((i : Nat) : Int).toNat]? = some items[i] := by simp [hlt]
    have hi2 : items2[((i : Nat) : Int).toNat]? = some items2[i] := by simp [hlt2]
    have hc : ((i : Int) + 1) = ((i + 1 : Nat) : Int) := by omega
    rw [hi1, hi2]
    refine wpAny_bind (wpAny_mono ht (fun r s2 h2 => ?_) fun _ _ x => x)
    cases r with
    | true =>
      rw [if_pos rfl] at h2
      have hrec := ih (i + 1) (by omega) (by omega) s2 h2
      obtain ⟨hp2, g2, d2, tk2, os2⟩ := s2
      wp_walk
      rw [hc]
      exact ⟨plainId_quiet plain_eq_loop _, codeAny_builtin entry_eq_loop (by
        rw [Around.under_plainId plain_eq_loop _]
        exact hrec)⟩
    | false =>
      rw [if_neg Bool.false_ne_true] at h2
      obtain ⟨⟨its, its2, m, m2, hl2, hb2, hs3, hs4⟩, hR⟩ := h2
      obtain ⟨hp2, g2, d2, tk2, os2⟩ := s2
      have hj1 : its[((i : Nat) : Int).toNat]? = some its[i] := by simp
      have hj2 : its2[((i : Nat) : Int).toNat]? = some its2[i] := by simp
      wp_walk using wpAny_loadPart' hl2, wpAny_loadPart' hb2
      rw [hj1, hj2]
      wp_walk
      exact hR
theorem ne_loopB (l b : Addr) (N : Nat) (I : Nat → Shared → Prop) (hl : TurnL prog w A R true l b N I) (fin : ∀ s, I N s → R (.ok (.ret (.bool false))) s) (k : Nat) :
    ∀ i : Nat, N - i = k → i ≤ N → ∀ s, I i s → wpAny (model prog w) A.in1 (Builtin.«list.__eq__.loop» ⟨[.ref l, .ref b, rawInt i, rawInt 3], []⟩) (GQ.FinOf prog w A R) (fun e s' => R (.error e) s') s := by
  induction k with
  | zero =>
    intro i hk hi s h
    obtain ⟨items, items2, ⟨n, n2, hl1, hb1, hs1, hs2⟩, _⟩ := hl _ _ h
    have hi' : i = N := by omega
    have hR : R (.ok (.ret (.bool false))) s := fin s (hi' ▸ h)
    obtain ⟨hp, g, d, tk, os⟩ := s
    wp_walk using wpAny_loadPart' hl1, wpAny_loadPart' hb1
    have hi1 : items[((i : Nat) : Int).toNat]? = none := by simp; omega
    have hi2 : items2[((i : Nat) : Int).toNat]? = none := by simp; omega
    rw [hi1, hi2]
    wp_walk using wpAny_loadPart' hl1, wpAny_loadPart' hb1
    have ee : (items.size != items2.size) = false := by rw [hs1, hs2]; simp
    first
      | (show R (.ok (.ret (.bool (items.size != items2.size)))) _
         rw [ee]; exact hR)
      | (simp [hs1, hs2]; exact hR)
  | succ k ih =>
    intro i hk hi s h
    obtain ⟨items, items2, ⟨n, n2, hl1, hb1, hs1, hs2⟩, turn⟩ := hl _ _ h
    have hlt : i < items.size := by omega
    have hlt2 : i < items2.size := by omega
    have ht := turn hlt hlt2
    obtain ⟨hp, g, d, tk, os⟩ := s
    wp_walk using wpAny_loadPart' hl1, wpAny_loadPart' hb1
    have hi1 : items[((i : Nat) : Int).toNat]? = some items[i] := by simp [hlt]
    have hi2 : items2[((i : Nat) : Int).toNat]? = some items2[i] := by simp [hlt2]
    have hc : ((i : Int) + 1) = ((i + 1 : Nat) : Int) := by omega
    rw [hi1, hi2]
    refine wpAny_bind (wpAny_mono ht (fun r s2 h2 => ?_) fun _ _ x => x)
    cases r with
    | true =>
      rw [if_pos rfl] at h2
      have hrec := ih (i + 1) (by omega) (by omega) s2 h2
      obtain ⟨hp2, g2, d2, tk2, os2⟩ := s2
      wp_walk
      rw [hc]
      exact ⟨plainId_quiet plain_eq_loop _, codeAny_builtin entry_eq_loop (by
        rw [Around.under_plainId plain_eq_loop _]
        exact hrec)⟩
    | false =>
      rw [if_neg Bool.false_ne_true] at h2
      obtain ⟨⟨its, its2, m, m2, hl2, hb2, hs3, hs4⟩, hR⟩ := h2
      obtain ⟨hp2, g2, d2, tk2, os2⟩ := s2
      have hj1 : its[((i : Nat) : Int).toNat]? = some its[i] := by simp
      have hj2 : its2[((i : Nat) : Int).toNat]? = some its2[i] := by simp
      wp_walk using wpAny_loadPart' hl2, wpAny_loadPart' hb2
      rw [hj1, hj2]
      wp_walk
      exact hR
theorem list_eqB (l b : Addr) (N : Nat) (I : Nat → Shared → Prop) (hl : TurnL prog w A R false l b N I) (fin : ∀ s, I N s → R (.ok (.ret (.bool true))) s) {s : Shared} (h : I 0 s) :
    wpAny (model prog w) A.in1 (Builtin.«list.__eq__» ⟨[.ref l, .ref b], []⟩) (GQ.FinOf prog w A R) (fun e s' => R (.error e) s') s := by
  obtain ⟨items, items2, ⟨n, n2, hl1, hb1, hs1, hs2⟩, _⟩ := hl _ _ h
  have hrec := eq_loopB (A := A) (R := R) l b N I hl fin _ 0 rfl (Nat.zero_le _) s h
  obtain ⟨hp, g, d, tk, os⟩ := s
  have f3 := AutoSeq1.sub_list_list
  have hne : ¬ (items.size != items2.size) = true := by simp [hs1, hs2]
  wp_walk using wpAny_loadPart' hl1, wpAny_loadPart' hb1
  exact ⟨plainId_quiet plain_eq_loop _, codeAny_builtin entry_eq_loop (by
    rw [Around.under_plainId plain_eq_loop _]
    exact hrec)⟩
theorem list_neB (l b : Addr) (N : Nat) (I : Nat → Shared → Prop) (hl : TurnL prog w A R true l b N I) (fin : ∀ s, I N s → R (.ok (.ret (.bool false))) s) {s : Shared} (h : I 0 s) :
    wpAny (model prog w) A.in1 (Builtin.«list.__ne__» ⟨[.ref l, .ref b], []⟩) (GQ.FinOf prog w A R) (fun e s' => R (.error e) s') s := by
  obtain ⟨items, items2, ⟨n, n2, hl1, hb1, hs1, hs2⟩, _⟩ := hl _ _ h
  have hrec := ne_loopB (A := A) (R := R) l b N I hl fin _ 0 rfl (Nat.zero_le _) s h
  obtain ⟨hp, g, d, tk, os⟩ := s
  have f3 := AutoSeq1.sub_list_list
  have hne : ¬ (items.size != items2.size) = true := by simp [hs1, hs2]
  wp_walk using wpAny_loadPart' hl1, wpAny_loadPart' hb1
  exact ⟨plainId_quiet plain_eq_loop _, codeAny_builtin entry_eq_loop (by
    rw [Around.under_plainId plain_eq_loop _]
    exact hrec)⟩
/-- lists of unlike lengths -/
theorem list_eqL {items items2 : Array Value} {n n2 : Nat} (l b : Addr) {s : Shared} (hl1 : s.heap.get? l = some { cls := .type "list", data := .seq items n }) (hb1 : s.heap.get? b = some { cls := .type "list", data := .seq items2 n2 }) (hn : items.size ≠ items2.size) (h : R (.ok (.ret (.bool false))) s) :
    wpAny (model prog w) A.in1 (Builtin.«list.__eq__» ⟨[.ref l, .ref b], []⟩) (GQ.FinOf prog w A R) (fun e s' => R (.error e) s') s := by
  obtain ⟨hp, g, d, tk, os⟩ := s
  have f3 := AutoSeq1.sub_list_list
  have hne : (items.size != items2.size) = true := by simpa using hn
  wp_walk using wpAny_loadPart' hl1, wpAny_loadPart' hb1
  exact h
theorem list_neL {items items2 : Array Value} {n n2 : Nat} (l b : Addr) {s : Shared} (hl1 : s.heap.get? l = some { cls := .type "list", data := .seq items n }) (hb1 : s.heap.get? b = some { cls := .type "list", data := .seq items2 n2 }) (hn : items.size ≠ items2.size) (h : R (.ok (.ret (.bool true))) s) :
    wpAny (model prog w) A.in1 (Builtin.«list.__ne__» ⟨[.ref l, .ref b], []⟩) (GQ.FinOf prog w A R) (fun e s' => R (.error e) s') s := by
  obtain ⟨hp, g, d, tk, os⟩ := s
  have f3 := AutoSeq1.sub_list_list
  have hne : (items.size != items2.size) = true := by simpa using hn
  wp_walk using wpAny_loadPart' hl1, wpAny_loadPart' hb1
  exact h
theorem tuple_eqB (l b : Addr) (items items2 : Array Value) (n n2 : Nat) (dd dd2 : Option Addr) (sl sl2 : Array (Option Value)) (I : Nat → Shared → Prop)
    (turn : ∀ i (h1 : i < items.size) (h2 : i < items2.size) s, I i s → wpAny (model prog w) A.in1 (eqBool items[i] items2[i]) (fun r s' => if r = true then I (i + 1) s' else R (.ok (.ret (.bool false))) s') (fun e s' => R (.error e) s') s)
    (fin : ∀ i s, (items.size ≤ i ∨ items2.size ≤ i) → I i s → R (.ok (.ret (.bool (items.size == items2.size)))) s) {s : Shared} (hl1 : s.heap.get? l = some { cls := .type "tuple", dict := dd, data := .seq items n, slots := sl }) (hb1 : s.heap.get? b = some { cls := .type "tuple", dict := dd2, data := .seq items2 n2, slots := sl2 }) (h : I 0 s) :
    wpAny (model prog w) A.in1 (Builtin.«tuple.__eq__» ⟨[.ref l, .ref b], []⟩) (GQ.FinOf prog w A R) (fun e s' => R (.error e) s') s := by
  have f2 := AutoSeq1.sub_tuple_tuple
  have h0 := h
  obtain ⟨hp, g, d, tk, os⟩ := s
  wp_walk using wpAny_loadPart' hl1, wpAny_loadPart' hb1, wpAny_forIn_list _ (fun rest b s' => b.1 = none ∧ ∃ i, rest = (items.toList.zip items2.toList).drop i ∧ I i s') _
  case turn =>
    rintro ⟨y, x⟩ rest b s' ⟨hb', i, hz, hI⟩
    have hlt : i < (items.toList.zip items2.toList).length := by
      rcases Nat.lt_or_ge i (items.toList.zip items2.toList).length with h' | h'
      · exact h'
      · rw [List.drop_of_length_le h'] at hz; cases hz
    have h1 : i < items.size := by simp at hlt; omega
    have h2 : i < items2.size := by simp at hlt; omega
    rw [List.drop_eq_getElem_cons hlt] at hz
    injection hz with hyx hrest
    have hy : y = items[i] := by have := congrArg Prod.fst hyx; simpa using this
    have hx : x = items2[i] := by have := congrArg Prod.snd hyx; simpa using this
    subst hy hx
    refine wpAny_bind (wpAny_mono (turn i h1 h2 s' hI) (fun r s2 q2 => ?_) fun _ _ x => x)
    cases r with
    | true =>
      rw [if_pos rfl] at q2
      wp_walk
      exact ⟨rfl, i + 1, hrest, q2⟩
    | false =>
      rw [if_neg Bool.false_ne_true] at q2
      wp_walk
      exact q2
  case fin =>
    rintro ⟨b1, b2⟩ s' ⟨hb', i, hz, hI⟩
    simp only at hb'
    subst hb'
    have hge : items.size ≤ i ∨ items2.size ≤ i := by
      rcases Nat.lt_or_ge i (items.toList.zip items2.toList).length with h' | h'
      · rw [List.drop_eq_getElem_cons h'] at hz; cases hz
      · simp at h'; omega
    have hR := fin i s' hge hI
    wp_walk
    simpa [Builtin.Tuple.tupleCompareSizes] using hR
  case h =>
    exact ⟨rfl, 0, rfl, h0⟩
theorem tuple_neB (l b : Addr) (items items2 : Array Value) (n n2 : Nat) (dd dd2 : Option Addr) (sl sl2 : Array (Option Value)) (I : Nat → Shared → Prop)
    (turn : ∀ i (h1 : i < items.size) (h2 : i < items2.size) s, I i s → wpAny (model prog w) A.in1 (eqBool items[i] items2[i]) (fun r s' => if r = true then I (i + 1) s' else R (.ok (.ret (.bool true))) s') (fun e s' => R (.error e) s') s)
    (fin : ∀ i s, (items.size ≤ i ∨ items2.size ≤ i) → I i s → R (.ok (.ret (.bool (items.size != items2.size)))) s) {s : Shared} (hl1 : s.heap.get? l = some { cls := .type "tuple", dict := dd, data := .seq items n, slots := sl }) (hb1 : s.heap.get? b = some { cls := .type "tuple", dict := dd2, data := .seq items2 n2, slots := sl2 }) (h : I 0 s) :
    wpAny (model prog w) A.in1 (Builtin.«tuple.__ne__» ⟨[.ref l, .ref b], []⟩) (GQ.FinOf prog w A R) (fun e s' => R (.error e) s') s := by
  have f2 := AutoSeq1.sub_tuple_tuple
  have h0 := h
  obtain ⟨hp, g, d, tk, os⟩ := s
  wp_walk using wpAny_loadPart' hl1, wpAny_loadPart' hb1, wpAny_forIn_list _ (fun rest b s' => b.1 = none ∧ ∃ i, rest = (items.toList.zip items2.toList).drop i ∧ I i s') _
  case turn =>
    rintro ⟨y, x⟩ rest b s' ⟨hb', i, hz, hI⟩
    have hlt : i < (items.toList.zip items2.toList).length := by
      rcases Nat.lt_or_ge i (items.toList.zip items2.toList).length with h' | h'
      · exact h'
      · rw [List.drop_of_length_le h'] at hz; cases hz
    have h1 : i < items.size := by simp at hlt; omega
    have h2 : i < items2.size := by simp at hlt; omega
    rw [List.drop_eq_getElem_cons hlt] at hz
    injection hz with hyx hrest
    have hy : y = items[i] := by have := congrArg Prod.fst hyx; simpa using this
    have hx : x = items2[i] := by have := congrArg Prod.snd hyx; simpa using this
    subst hy hx
    refine wpAny_bind (wpAny_mono (turn i h1 h2 s' hI) (fun r s2 q2 => ?_) fun _ _ x => x)
    cases r with
    | true =>
      rw [if_pos rfl] at q2
      wp_walk
      exact ⟨rfl, i + 1, hrest, q2⟩
    | false =>
      rw [if_neg Bool.false_ne_true] at q2
      wp_walk
      exact q2
  case fin =>
    rintro ⟨b1, b2⟩ s' ⟨hb', i, hz, hI⟩
    simp only at hb'
    subst hb'
    have hge : items.size ≤ i ∨ items2.size ≤ i := by
      rcases Nat.lt_or_ge i (items.toList.zip items2.toList).length with h' | h'
      · rw [List.drop_eq_getElem_cons h'] at hz; cases hz
      · simp at h'; omega
    have hR := fin i s' hge hI
    wp_walk
    simpa [Builtin.Tuple.tupleCompareSizes] using hR
  case h =>
    exact ⟨rfl, 0, rfl, h0⟩
end
end Dl

set_option maxHeartbeats 4000000
/-! DLG: == and != of plain data. -/
namespace Dl
open PySem PySem.W L2 PyProof.Rows
open Wp (isIns isIns_get rTy rTy_get ty_looks inst_of back_of)
/-! ### data without instances -/
mutual
def eqP : D → D → Bool
  | .non, .non => true
  | .bl a, .bl b => a == b
  | .bl a, .int j => (if a then 1 else 0) == j
  | .int i, .bl b => i == (if b then 1 else 0)
  | .int i, .int j => i == j
  | .str a, .str b => a == b
  | .lst xs, .lst ys => eqPs xs ys
  | .tup xs, .tup ys => eqPs xs ys
  | _, _ => false
def eqPs : List D → List D → Bool
  | [], [] => true
  | x :: xs, y :: ys => eqP x y && eqPs xs ys
  | _, _ => false
end
/-- no instances, not too deep -/
def isPy : Nat → D → Bool
  | _, .non => true
  | _, .bl _ => true
  | _, .int _ => true
  | _, .str _ => true
  | n + 1, .lst xs => xs.all (isPy n)
  | n + 1, .tup xs => xs.all (isPy n)
  | _, _ => false
mutual
def toPy : D → PyData
  | .non => .none
  | .bl b => .bool b
  | .int i => .int i
  | .str s => .str ⟨s.toArray⟩
  | .lst xs => .list (toPys xs)
  | .tup xs => .tuple (toPys xs)
  | _ => .none
def toPys : List D → List PyData
  | [] => []
  | x :: xs => toPy x :: toPys xs
end
theorem str_beq {a b : List Nat} : ((⟨a.toArray⟩ : Str) == ⟨b.toArray⟩) = (a == b) := by
  by_cases h : a = b
  · subst h; simp
  · have : ¬ (⟨a.toArray⟩ : Str) = ⟨b.toArray⟩ := fun z => h (by have := congrArg (fun z : Str => z.cps.toList) z; simpa using this)
    rw [beq_eq_false_iff_ne.mpr this, beq_eq_false_iff_ne.mpr h]
mutual
theorem eqv_toPy : ∀ (n : Nat) (x y : D), isPy n x = true → isPy n y = true → PyData.eqv (toPy x) (toPy y) = eqP x y
  | n, .non, y, _, h => by cases y <;> first | rfl | (cases n <;> cases h)
  | n, .bl a, y, _, h => by cases y <;> first | rfl | (cases n <;> cases h)
  | n, .int i, y, _, h => by cases y <;> first | rfl | (cases n <;> cases h)
  | n, .str a, y, _, h => by
    cases y with
    | str b => simp only [toPy, PyData.eqv, eqP]; exact str_beq
    | _ => first | rfl | (cases n <;> cases h)
  | 0, .lst xs, _, h, _ => by cases h
  | 0, .tup xs, _, h, _ => by cases h
  | n + 1, .lst xs, y, h, h' => by
    cases y with
    | lst ys => simp only [toPy, PyData.eqv, eqP]; exact eqv_toPys n xs ys h h'
    | _ => first | rfl | cases h'
  | n + 1, .tup xs, y, h, h' => by
    cases y with
    | tup ys => simp only [toPy, PyData.eqv, eqP]; exact eqv_toPys n xs ys h h'
    | _ => first | rfl | cases h'
  | n, .dct _ _, _, h, _ => by cases n <;> cases h
  | n, .ins _ _ _, _, h, _ => by cases n <;> cases h
  | n, .exc _ _ _, _, h, _ => by cases n <;> cases h
  | n, .fn _, _, h, _ => by cases n <;> cases h
  | n, .slc _, _, h, _ => by cases n <;> cases h
theorem eqv_toPys : ∀ (n : Nat) (xs ys : List D), xs.all (isPy n) = true → ys.all (isPy n) = true → PyData.eqvAll (toPys xs) (toPys ys) = eqPs xs ys
  | n, [], ys, _, _ => by cases ys <;> simp [toPys, PyData.eqvAll, eqPs]
  | n, x :: xs, [], _, _ => by simp [toPys, PyData.eqvAll, eqPs]
  | n, x :: xs, y :: ys, h, h' => by
    simp only [List.all_cons, Bool.and_eq_true] at h h'
    simp only [toPys, PyData.eqvAll, eqPs]
    rw [eqv_toPy n x y h.1 h'.1, eqv_toPys n xs ys h.2 h'.2]
end
section
variable {W : Wd} {F H : Hp} {K : Frag}
mutual
theorem dp_of (s : Le F H) : ∀ (n : Nat) (v : V) (d : D), isPy n d = true → Rep W F v d → Dp K H v (toPy d) ∧ PyData.canLay0 (toPy d) = true ∧ PyData.depth (toPy d) ≤ n
  | n, v, .non, _, r => by cases r; exact ⟨.non, rfl, Nat.zero_le _⟩
  | n, v, .bl b, _, r => by cases r; exact ⟨.bl _, rfl, Nat.zero_le _⟩
  | n, v, .int i, _, r => by cases r; exact ⟨.int _, rfl, Nat.zero_le _⟩
  | n, v, .str z, _, r => by
    obtain ⟨y, rfl, rfl, ok⟩ := r
    rw [toPy, str_eq]
    refine ⟨.str _, ?_, Nat.zero_le _⟩
    show PyData.strOk y = true
    unfold PyData.strOk
    rw [Array.all_eq_true]
    intro i hi
    have := ok.1 (y.cps[i]) (by simp)
    simpa using this
  | 0, v, .lst xs, h, _ => by cases h
  | 0, v, .tup xs, h, _ => by cases h
  | n + 1, v, .lst xs, h, r => by
    obtain ⟨p, vs, rfl, hp, r⟩ := r
    obtain ⟨h1, h2, h3⟩ := dp_ofs s n vs xs h r
    exact ⟨.lst (SqL.of (s _ _ hp)) h1, h2, by rw [toPy, PyData.depth]; exact Nat.succ_le_succ h3⟩
  | n + 1, v, .tup xs, h, r => by
    obtain ⟨p, vs, rfl, hp, r⟩ := r
    obtain ⟨h1, h2, h3⟩ := dp_ofs s n vs xs h r
    exact ⟨.tup (SqT.of (s _ _ hp)) h1, h2, by rw [toPy, PyData.depth]; exact Nat.succ_le_succ h3⟩
  | n, v, .dct _ _, h, _ => by cases n <;> cases h
  | n, v, .ins _ _ _, h, _ => by cases n <;> cases h
  | n, v, .exc _ _ _, h, _ => by cases n <;> cases h
  | n, v, .fn _, h, _ => by cases n <;> cases h
  | n, v, .slc _, h, _ => by cases n <;> cases h
theorem dp_ofs (s : Le F H) : ∀ (n : Nat) (vs : List V) (ds : List D), ds.all (isPy n) = true → Reps W F vs ds → DpAll K H vs (toPys ds) ∧ PyData.canLayAll0 (toPys ds) = true ∧ PyData.depthAll (toPys ds) ≤ n
  | n, vs, [], _, r => by rw [show vs = [] from r]; exact ⟨.nil, rfl, Nat.zero_le _⟩
  | n, vs, d :: ds, h, r => by
    obtain ⟨v, t, rfl, r1, r2⟩ := r
    simp only [List.all_cons, Bool.and_eq_true] at h
    obtain ⟨a1, a2, a3⟩ := dp_of s n v d h.1 r1
    obtain ⟨b1, b2, b3⟩ := dp_ofs s n t ds h.2 r2
    refine ⟨.cons a1 b1, ?_, ?_⟩
    · rw [toPys, PyData.canLayAll0, a2, b2]; rfl
    · rw [toPys, PyData.depthAll]; exact Nat.max_le.mpr ⟨a3, b3⟩
end
end
/-! ### what may be one and the same thing -/
mutual
def sameD : D → D → Bool
  | .slc _, _ => true
  | _, .slc _ => true
  | .non, .non => true
  | .bl a, .bl b => a == b
  | .int i, .int j => i == j
  | .str a, .str b => a == b
  | .lst xs, .lst ys => sameDs xs ys
  | .tup xs, .tup ys => sameDs xs ys
  | .dct _ _, .dct _ _ => true
  | .ins c _ ds, .ins c' _ ds' => c == c' && sameDs ds ds'
  | .exc _ _ _, .exc _ _ _ => true
  | .fn _, .fn _ => true
  | _, _ => false
def sameDs : List D → List D → Bool
  | [], [] => true
  | x :: xs, y :: ys => sameD x y && sameDs xs ys
  | _, _ => false
end
section
variable {W : Wd} {F : Hp}
/-- the kinds of things an address tells -/
theorem rep_kind {v : V} {d e : D} (fnn : ∀ i, F (W.fa i) = none) (r : Rep W F v d) (q : Rep W F v e) : (match d, e with
    | .slc _, _ => True | _, .slc _ => True | .non, .non => True | .bl _, .bl _ => True | .int _, .int _ => True | .str _, .str _ => True | .lst _, .lst _ => True | .tup _, .tup _ => True | .dct _ _, .dct _ _ => True | .ins _ _ _, .ins _ _ _ => True | .exc _ _ _, .exc _ _ _ => True | .fn _, .fn _ => True | _, _ => False) := by
  cases d <;> cases e <;> simp only [Rep] at r q <;> first
    | trivial
    | (subst r; cases q; done)
    | (subst r; obtain ⟨_, q, _⟩ := q; cases q; done)
    | (subst q; obtain ⟨_, r, _⟩ := r; cases r; done)
    | (subst r; obtain ⟨_, _, q, _⟩ := q; cases q; done)
    | (subst q; obtain ⟨_, _, r, _⟩ := r; cases r; done)
    | (subst r; obtain ⟨_, _, _, q, _⟩ := q; cases q; done)
    | (subst q; obtain ⟨_, _, _, r, _⟩ := r; cases r; done)
    | (obtain ⟨_, r, _⟩ := r; subst r; obtain ⟨_, _, q, _⟩ := q; cases q; done)
    | (obtain ⟨_, r, _⟩ := r; subst r; obtain ⟨_, _, _, q, _⟩ := q; cases q; done)
    | (obtain ⟨_, q, _⟩ := q; subst q; obtain ⟨_, _, r, _⟩ := r; cases r; done)
    | (obtain ⟨_, q, _⟩ := q; subst q; obtain ⟨_, _, _, r, _⟩ := r; cases r; done)
    | (obtain ⟨_, r, _⟩ := r; subst r; cases q; done)
    | (obtain ⟨_, q, _⟩ := q; subst q; cases r; done)
    | (obtain ⟨p, _, r, h, _⟩ := r; subst r; obtain ⟨p', _, q, h', _⟩ := q; cases q; rw [h] at h'; cases h'; done)
    | (obtain ⟨p, _, r, h, _⟩ := r; subst r; obtain ⟨p', _, _, q, h', _⟩ := q; cases q; rw [h] at h'; cases h'; done)
    | (obtain ⟨p, _, _, r, h, _⟩ := r; subst r; obtain ⟨p', _, q, h', _⟩ := q; cases q; rw [h] at h'; cases h'; done)
    | (obtain ⟨p, _, _, r, h, _⟩ := r; subst r; obtain ⟨p', _, _, q, h', _⟩ := q; cases q; rw [h] at h'; cases h'; done)
    | (obtain ⟨p, _, r, h, _⟩ := r; subst r; cases q; rw [fnn] at h; cases h; done)
    | (obtain ⟨p, _, _, r, h, _⟩ := r; subst r; cases q; rw [fnn] at h; cases h; done)
    | (obtain ⟨p, _, q, h, _⟩ := q; subst q; cases r; rw [fnn] at h; cases h; done)
    | (obtain ⟨p, _, _, q, h, _⟩ := q; subst q; cases r; rw [fnn] at h; cases h; done)
    | exact r.elim
    | exact q.elim
mutual
theorem same_of (inj : ∀ a b, W.cl a = W.cl b → a = b) (fnn : ∀ i, F (W.fa i) = none) : ∀ (d e : D) (v : V), Rep W F v d → Rep W F v e → sameD d e = true
  | d, e, v, r, q => by
    have k := rep_kind fnn r q
    match d, e, r, q, k with
    | .non, .non, _, _, _ => rfl
    | .bl a, .bl b, r, q, _ => cases r; cases q; simp [sameD]
    | .int a, .int b, r, q, _ => cases r; cases q; simp [sameD]
    | .str a, .str b, r, q, _ =>
      obtain ⟨z, rfl, rfl, _⟩ := r
      obtain ⟨z', e, rfl, _⟩ := q
      cases e
      simp [sameD]
    | .lst xs, .lst ys, r, q, _ =>
      obtain ⟨p, vs, rfl, h, r⟩ := r
      obtain ⟨p', vs', e, h', q⟩ := q
      cases e
      rw [h] at h'; cases h'
      exact same_ofs inj fnn xs ys vs r q
    | .tup xs, .tup ys, r, q, _ =>
      obtain ⟨p, vs, rfl, h, r⟩ := r
      obtain ⟨p', vs', e, h', q⟩ := q
      cases e
      rw [h] at h'; cases h'
      exact same_ofs inj fnn xs ys vs r q
    | .dct _ _, .dct _ _, _, _, _ => rfl
    | .ins c ns ds, .ins c' ns' ds', r, q, _ =>
      obtain ⟨p, dx, fvs, rfl, h, _, _, r⟩ := r
      obtain ⟨p', dx', fvs', e, h', _, _, q⟩ := q
      cases e
      rw [h] at h'
      simp only [Option.some.injEq, HO.ins.injEq] at h'
      obtain ⟨hc, _, rfl⟩ := h'
      have := inj _ _ hc
      subst this
      simp only [sameD, beq_self_eq_true, Bool.true_and]
      exact same_ofs inj fnn ds ds' _ r q
    | .exc _ _ _, .exc _ _ _, _, _, _ => rfl
    | .fn _, .fn _, _, _, _ => rfl
    | .slc _, _, _, _, _ => simp only [sameD]
    | d, .slc _, _, _, _ => cases d <;> simp only [sameD]
theorem same_ofs (inj : ∀ a b, W.cl a = W.cl b → a = b) (fnn : ∀ i, F (W.fa i) = none) : ∀ (ds es : List D) (vs : List V), Reps W F vs ds → Reps W F vs es → sameDs ds es = true
  | [], [], _, _, _ => rfl
  | [], e :: es, vs, r, q => by
    rw [show vs = [] from r] at q
    obtain ⟨_, _, z, _⟩ := q; cases z
  | d :: ds, [], vs, r, q => by
    rw [show vs = [] from q] at r
    obtain ⟨_, _, z, _⟩ := r; cases z
  | d :: ds, e :: es, vs, r, q => by
    obtain ⟨v, t, rfl, r1, r2⟩ := r
    obtain ⟨v', t', z, q1, q2⟩ := q
    cases z
    simp only [sameDs, Bool.and_eq_true]
    exact ⟨same_of inj fnn d e v r1 q1, same_ofs inj fnn ds es t r2 q2⟩
end
end
mutual
theorem eqP_of_same : ∀ (n : Nat) (x y : D), isPy n x = true → isPy n y = true → sameD x y = true → eqP x y = true
  | n, .non, y, _, h2, h => by cases y <;> first | rfl | (cases h; done) | (cases n <;> cases h2; done)
  | n, .bl a, y, _, h2, h => by
    cases y with
    | bl b => simpa [eqP, sameD] using h
    | _ => first | (cases h; done) | (cases n <;> cases h2; done)
  | n, .int a, y, _, h2, h => by
    cases y with
    | int b => simpa [eqP, sameD] using h
    | _ => first | (cases h; done) | (cases n <;> cases h2; done)
  | n, .str a, y, _, h2, h => by
    cases y with
    | str b => simpa [eqP, sameD] using h
    | _ => first | (cases h; done) | (cases n <;> cases h2; done)
  | 0, .lst xs, _, h, _, _ => by cases h
  | 0, .tup xs, _, h, _, _ => by cases h
  | n + 1, .lst xs, y, h1, h2, h => by
    cases y with
    | lst ys => exact eqPs_of_same n xs ys h1 h2 h
    | _ => first | (cases h; done) | (cases h2; done)
  | n + 1, .tup xs, y, h1, h2, h => by
    cases y with
    | tup ys => exact eqPs_of_same n xs ys h1 h2 h
    | _ => first | (cases h; done) | (cases h2; done)
  | n, .dct _ _, _, h, _, _ => by cases n <;> cases h
  | n, .ins _ _ _, _, h, _, _ => by cases n <;> cases h
  | n, .exc _ _ _, _, h, _, _ => by cases n <;> cases h
  | n, .fn _, _, h, _, _ => by cases n <;> cases h
  | n, .slc _, _, h, _, _ => by cases n <;> cases h
theorem eqPs_of_same : ∀ (n : Nat) (xs ys : List D), xs.all (isPy n) = true → ys.all (isPy n) = true → sameDs xs ys = true → eqPs xs ys = true
  | n, [], ys, _, _, h => by cases ys <;> first | rfl | cases h
  | n, x :: xs, [], _, _, h => by cases h
  | n, x :: xs, y :: ys, h1, h2, h => by
    simp only [List.all_cons, Bool.and_eq_true] at h1 h2
    simp only [sameDs, Bool.and_eq_true] at h
    simp only [eqPs, Bool.and_eq_true]
    exact ⟨eqP_of_same n x y h1.1 h2.1 h.1, eqPs_of_same n xs ys h1.2 h2.2 h.2⟩
end
end Dl

set_option maxHeartbeats 4000000
/-! DLH: == and != of plain data, the classes' own ones among them. -/
namespace Dl
open PySem PySem.W L2 PyProof.Rows
open Wp (isIns isIns_get rTy rTy_get ty_looks inst_of back_of)
def asBR : R D → R Bool
  | .ok (.bl b) => .ok b
  | _ => .bad
/-- two items: unlike ones are not one thing -/
def eqI (f : D → D → R Bool) (x y : D) : R Bool := if isPy 8 x && isPy 8 y then f x y else match f x y with
  | .ok true => .ok true
  | .ok false => if sameD x y then .bad else .ok false
  | _ => .bad
def allF (f : D → D → R Bool) : List D → List D → R Bool
  | x :: xs, y :: ys => (match f x y with
    | .ok true => allF f xs ys
    | .ok false => .ok false
    | _ => .bad)
  | [], [] => .ok true
  | _, _ => .ok false
/-- what declines == beside an instance -/
def declines : D → Bool
  | .non => true
  | .str _ => true
  | .tup _ => true
  | .lst _ => true
  | .int _ => true
  | .bl _ => true
  | _ => false
def eqStep (m : Nat → Option (List Sl → RF)) (rec : D → D → R Bool) (x y : D) : R Bool :=
  if isPy 8 x && isPy 8 y then .ok (eqP x y) else match x, y with
  | .ins c _ _, _ => (match m c with
    | some g => if besides c y then asBR (call2 g x y) else .bad
    | none => .bad)
  | _, .ins c _ _ => (match m c with
    | some g => if declines x then asBR (call2 g y x) else .bad
    | none => .bad)
  | .lst xs, .lst ys => if xs.length = ys.length then allF (eqI rec) xs ys else .ok false
  | .tup xs, .tup ys => allF (eqI rec) xs ys
  | _, _ => .bad
def eqD (m : Nat → Option (List Sl → RF)) : Nat → D → D → R Bool
  | 0 => fun _ _ => .bad
  | k + 1 => eqStep m (eqD m k)
section
variable {X : Cx} {W : Wd} {B : Bs} {E : XK} {n : Nat}
def RcD (X : Cx) (W : Wd) (n : Nat) (f : D → D → R Bool) : Prop := ∀ (A : Around) (pins : List (Addr × Obj)) (s : Shared) (σ : L2.St) (F H : Hp) (x y : V) (u1 u2 : Value) (d e : D) (b : Bool), L2.Sub X n A → A.guards = some [] → L2.Inv X pins σ H s → Le F H → Tb W F H → RelV x u1 → RelV y u2 →
  Rep W F x d → Rep W F y e → f d e = .ok b → wpAny (model X.prog X.w) A (richCompare .Eq u1 u2) (fun v s' => v = .bool b ∧ ∃ F' H', L2.Inv X pins σ H' s' ∧ PStep W [] F H F' H') X.xe s
def EqB (X : Cx) (W : Wd) (n : Nat) (f : D → D → R Bool) : Prop := ∀ (A : Around) (pins : List (Addr × Obj)) (s : Shared) (σ : L2.St) (F H : Hp) (x y : V) (u1 u2 : Value) (d e : D) (b : Bool), L2.Sub X n A → A.guards = some [] → L2.Inv X pins σ H s → Le F H → Tb W F H → RelV x u1 → RelV y u2 →
  Rep W F x d → Rep W F y e → f d e = .ok b → wpAny (model X.prog X.w) A (eqBool u1 u2) (fun r s' => r = b ∧ ∃ F' H', L2.Inv X pins σ H' s' ∧ PStep W [] F H F' H') X.xe s
theorem fnn_of {pins : List (Addr × Obj)} {s : Shared} {σ : L2.St} {F H : Hp} (hfa : ∀ i, ∃ o, X.base.get? (W.fa i) = some o) (I : L2.Inv X pins σ H s) (l : Le F H) : ∀ i, F (W.fa i) = none := fun i => by
  obtain ⟨o, ho⟩ := hfa i
  have := (I.bs _ o ho).2
  cases q : F (W.fa i) with
  | none => rfl
  | some z => rw [l _ _ q] at this; cases this
theorem flt_not {F : Hp} {v : V} {d : D} {u : Value} (r : Rep W F v d) (q : RelV v u) : ∀ b t, u ≠ .float b t := by
  intro b t z
  subst z
  cases v with
  | flt b' => cases d <;> simp [Rep] at r
  | _ => first | (obtain ⟨_, q⟩ := q; cases q; done) | (cases q; done)
theorem eqB_of {f : D → D → R Bool} (hpy : ∀ x y b, isPy 8 x = true → isPy 8 y = true → f x y = .ok b → b = eqP x y) (inj : ∀ a b, W.cl a = W.cl b → a = b) (hfa : ∀ i, ∃ o, X.base.get? (W.fa i) = some o) (h : RcD X W n f) : EqB X W n (eqI f) := by
  intro A pins s σ F H x y u1 u2 d e b sb gd I l t r1 r2 q1 q2 eb
  unfold eqBool
  refine wpAny_holding ?_
  by_cases hu : (u1 == u2) = true
  · rw [if_pos hu]
    have : u1 = u2 := eq_of_beq hu
    subst this
    have := RelV.inj r1 r2
    subst this
    have sm := same_of inj (fnn_of hfa I l) d e x q1 q2
    have : b = true := by
      unfold eqI at eb
      split at eb
      · rename_i hp
        simp only [Bool.and_eq_true] at hp
        rw [hpy d e b hp.1 hp.2 eb]
        exact eqP_of_same 8 d e hp.1 hp.2 sm
      · split at eb
        · cases eb; rfl
        · first | (cases eb; done) | (rw [sm, if_pos rfl] at eb; cases eb)
        · first | (cases eb; done) | (rw [sm] at *; contradiction)
        all_goals first | (cases eb; done) | skip
    subst this
    exact wpAny_bind (wpAny_rule (wpAny_pure ⟨rfl, F, H, I, PStep.refl l t⟩))
  · rw [if_neg hu]
    have hf : f d e = .ok b := by
      unfold eqI at eb
      split at eb
      · exact eb
      · split at eb
        · rename_i q; cases eb; exact q
        · rename_i q
          split at eb
          · cases eb
          · cases eb; exact q
        · cases eb
    have main := h A pins s σ F H x y u1 u2 d e b sb gd I l t r1 r2 q1 q2 hf
    have fin : wpAny (model X.prog X.w) A (richCompare .Eq u1 u2 >>= fun v => truthOfDropped v) (fun r s' => r = b ∧ ∃ F' H', L2.Inv X pins σ H' s' ∧ PStep W [] F H F' H') X.xe s := by
      refine wpAny_bind (wpAny_mono main (fun v s' hv => ?_) fun _ _ x => x)
      obtain ⟨rfl, F', H', I', p⟩ := hv
      exact wpAny_truthy_bool ⟨rfl, F', H', I', p⟩
    have n1 := flt_not q1 r1
    cases u1 <;> first | exact absurd rfl (n1 _ _) | exact fin
/-- the state within a comparison of two sequences -/
def LoopD (X : Cx) (W : Wd) (pins : List (Addr × Obj)) (σ : L2.St) (F H : Hp) (s' : Shared) : Prop := ∃ F' H', L2.Inv X pins σ H' s' ∧ PStep W [] F H F' H'
theorem all_drop {f : D → D → R Bool} : ∀ {xs ys : List D} {i : Nat} {b : Bool} {x y : D}, allF f (xs.drop i) (ys.drop i) = .ok b → xs[i]? = some x → ys[i]? = some y → (f x y = .ok true ∧ allF f (xs.drop (i + 1)) (ys.drop (i + 1)) = .ok b) ∨ (f x y = .ok false ∧ b = false) := by
  intro xs ys i b x y h hx hy
  have h1 := get_lt hx
  have h2 := get_lt hy
  rw [List.drop_eq_getElem_cons h1, List.drop_eq_getElem_cons h2] at h
  rw [List.getElem?_eq_getElem h1] at hx
  rw [List.getElem?_eq_getElem h2] at hy
  cases hx; cases hy
  simp only [allF] at h
  split at h
  · rename_i q; exact .inl ⟨q, h⟩
  · rename_i q; cases h; exact .inr ⟨q, rfl⟩
  · cases h
theorem rc_lst {f : D → D → R Bool} (h : EqB X W n f) {A : Around} {pins : List (Addr × Obj)} {s : Shared} {σ : L2.St} {F H : Hp} {a b : Addr} {vs ws : List V} {xs ys : List D} {r : Bool} (sb : L2.Sub X (n + 1) A) (gd : A.guards = some []) (I : L2.Inv X pins σ H s) (l : Le F H) (t : Tb W F H) (ha : F a = some (.lst vs)) (hb : F b = some (.lst ws)) (q1 : Reps W F vs xs) (q2 : Reps W F ws ys)
    (e : (if xs.length = ys.length then allF f xs ys else .ok false) = .ok r) : wpAny (model X.prog X.w) A (richCompare .Eq (.ref a) (.ref b)) (fun v s' => v = .bool r ∧ LoopD X W pins σ F H s') X.xe s := by
  have rd : ∀ s', LoopD X W pins σ F H s' → ∃ (its its2 : List Value) (k k2 : Nat), Vals vs its ∧ Vals ws its2 ∧ s'.heap.get? a = some { cls := .type "list", data := .seq its.toArray k } ∧ s'.heap.get? b = some { cls := .type "list", data := .seq its2.toArray k2 } := fun s' ⟨F', H', I', p⟩ => by
    obtain ⟨_, its, k, r, g⟩ := I'.hok a _ (p.sub _ _ (p.le _ _ ha))
    obtain ⟨_, its2, k2, r2, g2⟩ := I'.hok b _ (p.sub _ _ (p.le _ _ hb))
    exact ⟨its, its2, k, k2, r, r2, g, g2⟩
  have l0 : LoopD X W pins σ F H s := ⟨F, H, I, PStep.refl l t⟩
  obtain ⟨its, its2, k, k2, r1, r2, g1, g2⟩ := rd s l0
  have lv := q1.length
  have lw := q2.length
  refine wpAny_richCompare_same_room (op := .Eq) ⟨_, g1, rfl⟩ ⟨_, g2, rfl⟩ PySem.F.slot_list_eq (GQ.call_here PySem.F.slot_list_eq ⟨_, g1, rfl⟩ PySem.F.entry_list_eq (PySem.F.args_list_eq_2 _ _) ?_) sb.room.units0
  by_cases hl : xs.length = ys.length
  · rw [if_pos hl] at e
    refine list_eqB (R := wants (fun v s' => v ≠ .notImplemented ∧ v = .bool r ∧ LoopD X W pins σ F H s') X.xe) a b xs.length (fun i s' => LoopD X W pins σ F H s' ∧ i ≤ xs.length ∧ allF f (xs.drop i) (ys.drop i) = .ok r) (fun i s' q => ?_) (fun s' q => ?_) ⟨l0, Nat.zero_le _, by simpa using e⟩
    · obtain ⟨ld, hi, hf⟩ := q
      obtain ⟨its, its2, k, k2, r1, r2, g1, g2⟩ := rd s' ld
      refine ⟨its.toArray, its2.toArray, ⟨k, k2, g1, g2, by rw [List.size_toArray, ← r1.length, lv], by rw [List.size_toArray, ← r2.length, lw, hl]⟩, fun h1 h2 => ?_⟩
      obtain ⟨F', H', I', p⟩ := ld
      have h1' : i < its.length := by simpa using h1
      have h2' : i < its2.length := by simpa using h2
      have hv : i < vs.length := by rw [r1.length]; exact h1'
      have hw : i < ws.length := by rw [r2.length]; exact h2'
      obtain ⟨z1, e1, rv1⟩ := r1.get (List.getElem?_eq_getElem hv)
      obtain ⟨z2, e2, rv2⟩ := r2.get (List.getElem?_eq_getElem hw)
      obtain ⟨d1, ed1, rp1⟩ := q1.get (List.getElem?_eq_getElem hv)
      obtain ⟨d2, ed2, rp2⟩ := q2.get (List.getElem?_eq_getElem hw)
      have ez1 : its.toArray[i] = z1 := by rw [List.getElem?_eq_getElem h1'] at e1; simpa using Option.some.inj e1
      have ez2 : its2.toArray[i] = z2 := by rw [List.getElem?_eq_getElem h2'] at e2; simpa using Option.some.inj e2
      rw [ez1, ez2]
      rcases all_drop hf ed1 ed2 with ⟨c, hf'⟩ | ⟨c, rfl⟩
      · refine wpAny_mono (h A.in1 pins s' σ F' H' _ _ z1 z2 d1 d2 true sb.in1 gd I' p.sub p.tabs rv1 rv2 (rp1.le p.le) (rp2.le p.le) c) (fun z s2 ⟨ez, F2, H2, I2, p2⟩ => ?_) fun _ _ x => x
        subst ez
        rw [if_pos rfl]
        exact ⟨⟨F2, H2, I2, p.trans0 p2⟩, by rw [← lv]; exact hv, hf'⟩
      · refine wpAny_mono (h A.in1 pins s' σ F' H' _ _ z1 z2 d1 d2 false sb.in1 gd I' p.sub p.tabs rv1 rv2 (rp1.le p.le) (rp2.le p.le) c) (fun z s2 ⟨ez, F2, H2, I2, p2⟩ => ?_) fun _ _ x => x
        subst ez
        rw [if_neg Bool.false_ne_true]
        have ld2 : LoopD X W pins σ F H s2 := ⟨F2, H2, I2, p.trans0 p2⟩
        obtain ⟨jts, jts2, m, m2, s1, s2', k1, k2'⟩ := rd s2 ld2
        exact ⟨⟨jts.toArray, jts2.toArray, m, m2, k1, k2', by rw [List.size_toArray, ← s1.length, lv], by rw [List.size_toArray, ← s2'.length, lw, hl]⟩, nofun, rfl, ld2⟩
    · obtain ⟨ld, _, hf⟩ := q
      rw [List.drop_length, hl, List.drop_length] at hf
      simp only [allF] at hf
      cases hf
      exact ⟨nofun, rfl, ld⟩
  · rw [if_neg hl] at e
    cases e
    refine list_eqL (R := wants (fun v s' => v ≠ .notImplemented ∧ v = .bool false ∧ LoopD X W pins σ F H s') X.xe) a b g1 g2 ?_ ⟨nofun, rfl, l0⟩
    rw [List.size_toArray, List.size_toArray, ← r1.length, ← r2.length, lv, lw]
    exact hl
theorem allF_len {f : D → D → R Bool} : ∀ {xs ys : List D}, allF f xs ys = .ok true → xs.length = ys.length
  | [], [], _ => rfl
  | [], _ :: _, h => by simp [allF] at h
  | _ :: _, [], h => by simp [allF] at h
  | x :: xs, y :: ys, h => by
    simp only [allF] at h
    split at h
    · simp [allF_len h]
    · cases h
    · cases h
theorem rc_tup {f : D → D → R Bool} (h : EqB X W n f) {A : Around} {pins : List (Addr × Obj)} {s : Shared} {σ : L2.St} {F H : Hp} {a b : Addr} {vs ws : List V} {xs ys : List D} {r : Bool} (sb : L2.Sub X (n + 1) A) (gd : A.guards = some []) (I : L2.Inv X pins σ H s) (l : Le F H) (t : Tb W F H) (ha : F a = some (.tup vs)) (hb : F b = some (.tup ws)) (q1 : Reps W F vs xs) (q2 : Reps W F ws ys)
    (e : allF f xs ys = .ok r) : wpAny (model X.prog X.w) A (richCompare .Eq (.ref a) (.ref b)) (fun v s' => v = .bool r ∧ LoopD X W pins σ F H s') X.xe s := by
  have l0 : LoopD X W pins σ F H s := ⟨F, H, I, PStep.refl l t⟩
  obtain ⟨its, r1, ⟨⟨c1, dd1, dt1, sl1⟩, ho1, hc1, n1, hd1⟩, _⟩ := I.tuple (SqT.of (K := X.K) (l _ _ ha))
  obtain ⟨its2, r2, ⟨⟨c2, dd2, dt2, sl2⟩, ho2, hc2, n2, hd2⟩, _⟩ := I.tuple (SqT.of (K := X.K) (l _ _ hb))
  simp only at hc1 hd1 hc2 hd2
  subst hc1 hd1 hc2 hd2
  have lv := q1.length
  have lw := q2.length
  refine wpAny_richCompare_same_room (op := .Eq) ⟨_, ho1, rfl⟩ ⟨_, ho2, rfl⟩ PySem.F.slot_tuple_eq (GQ.call_here PySem.F.slot_tuple_eq ⟨_, ho1, rfl⟩ PySem.F.entry_tuple_eq (PySem.F.args_tuple_eq_2 _ _) ?_) sb.room.units0
  refine tuple_eqB (R := wants (fun v s' => v ≠ .notImplemented ∧ v = .bool r ∧ LoopD X W pins σ F H s') X.xe) a b its.toArray its2.toArray n1 n2 dd1 dd2 sl1 sl2 (fun i s' => LoopD X W pins σ F H s' ∧ (i ≤ xs.length ∧ i ≤ ys.length) ∧ allF f (xs.drop i) (ys.drop i) = .ok r) (fun i h1 h2 s' q => ?_) (fun i s' hge q => ?_) ho1 ho2 ⟨l0, ⟨Nat.zero_le _, Nat.zero_le _⟩, by simpa using e⟩
  · obtain ⟨ld, _, hf⟩ := q
    obtain ⟨F', H', I', p⟩ := ld
    have h1' : i < its.length := by simpa using h1
    have h2' : i < its2.length := by simpa using h2
    have hv : i < vs.length := by rw [r1.length]; exact h1'
    have hw : i < ws.length := by rw [r2.length]; exact h2'
    obtain ⟨z1, e1, rv1⟩ := r1.get (List.getElem?_eq_getElem hv)
    obtain ⟨z2, e2, rv2⟩ := r2.get (List.getElem?_eq_getElem hw)
    obtain ⟨d1, ed1, rp1⟩ := q1.get (List.getElem?_eq_getElem hv)
    obtain ⟨d2, ed2, rp2⟩ := q2.get (List.getElem?_eq_getElem hw)
    have ez1 : its.toArray[i] = z1 := by rw [List.getElem?_eq_getElem h1'] at e1; simpa using Option.some.inj e1
    have ez2 : its2.toArray[i] = z2 := by rw [List.getElem?_eq_getElem h2'] at e2; simpa using Option.some.inj e2
    rw [ez1, ez2]
    rcases all_drop hf ed1 ed2 with ⟨c, hf'⟩ | ⟨c, rfl⟩
    · refine wpAny_mono (h A.in1 pins s' σ F' H' _ _ z1 z2 d1 d2 true sb.in1 gd I' p.sub p.tabs rv1 rv2 (rp1.le p.le) (rp2.le p.le) c) (fun z s2 ⟨ez, F2, H2, I2, p2⟩ => ?_) fun _ _ x => x
      subst ez
      rw [if_pos rfl]
      exact ⟨⟨F2, H2, I2, p.trans0 p2⟩, ⟨by rw [← lv]; exact hv, by rw [← lw]; exact hw⟩, hf'⟩
    · refine wpAny_mono (h A.in1 pins s' σ F' H' _ _ z1 z2 d1 d2 false sb.in1 gd I' p.sub p.tabs rv1 rv2 (rp1.le p.le) (rp2.le p.le) c) (fun z s2 ⟨ez, F2, H2, I2, p2⟩ => ?_) fun _ _ x => x
      subst ez
      rw [if_neg Bool.false_ne_true]
      exact ⟨nofun, rfl, F2, H2, I2, p.trans0 p2⟩
  · obtain ⟨ld, hi, hf⟩ := q
    refine ⟨nofun, ?_, ld⟩
    have s1 : its.toArray.size = xs.length := by rw [List.size_toArray, ← r1.length, lv]
    have s2 : its2.toArray.size = ys.length := by rw [List.size_toArray, ← r2.length, lw]
    rw [s1, s2] at hge ⊢
    have hx : xs.drop i = [] ∨ ys.drop i = [] := hge.imp List.drop_of_length_le List.drop_of_length_le
    have key : ∀ (as bs : List D), (as = [] ∨ bs = []) → allF f as bs = .ok r → r = (as.length == bs.length) := fun as bs hh hf => by
      cases as <;> cases bs <;> simp only [allF] at hf <;> first | (cases hf; rfl) | (rcases hh with z | z <;> cases z)
    have := key _ _ hx hf
    rw [this]
    congr 1
    simp only [List.length_drop]
    rw [Bool.eq_iff_iff]
    simp only [beq_iff_eq]
    omega
/-! ### beside instances -/
theorem int_eq_ref {prog : Program} {w : World} {A : Around} {E : Value → Shared → Prop} {s : Shared} {x : Addr} {ox : Obj} {a : Int} {t : Tok} {Q : Value → Shared → Prop} (hx : s.heap.get? x = some ox) (hd : ox.data = .plain)
    (h : Q .notImplemented s) : wpAny (model prog w) A (call (.builtin "int.__eq__") [.int a t, .ref x]) Q E s := by
  obtain ⟨oc, od, dt, sl⟩ := ox
  simp only at hd
  subst hd
  refine GQ.call_here PySem.F.slot_int_eq (PySem.typeIs_int s a t) PySem.F.entry_int_eq (PySem.F.args_int_eq_2 _ _) ?_
  obtain ⟨hp, g, d, tk, os⟩ := s
  wp_walk using AutoSeq1.wpAny_loadPart' hx
  exact h
theorem bool_eq_ref {prog : Program} {w : World} {A : Around} {E : Value → Shared → Prop} {s : Shared} {x : Addr} {ox : Obj} {a : Bool} {Q : Value → Shared → Prop} (hx : s.heap.get? x = some ox) (hd : ox.data = .plain)
    (h : Q .notImplemented s) : wpAny (model prog w) A (call (.builtin "int.__eq__") [.bool a, .ref x]) Q E s := by
  obtain ⟨oc, od, dt, sl⟩ := ox
  simp only at hd
  subst hd
  refine GQ.call_here PySem.F.slot_bool_eq (PySem.typeIs_bool s a) PySem.F.entry_int_eq (PySem.F.args_int_eq_2 _ _) ?_
  obtain ⟨hp, g, d, tk, os⟩ := s
  wp_walk using AutoSeq1.wpAny_loadPart' hx
  exact h
theorem lst_eq_ref {prog : Program} {w : World} {A : Around} {E : Value → Shared → Prop} {s : Shared} {x : Addr} {ox : Obj} {l : Addr} {items : Array Value} {n : Nat} {K : Frag} {C : Addr} {Q : Value → Shared → Prop} (X : K.In s.heap) (hl : s.heap.get? l = some { cls := .type "list", data := .seq items n }) (hx : s.heap.get? x = some ox) (hc : ox.cls = .ref C) (hs : subIn K (.ref C) (.type "list") = some false) (h : Q .notImplemented s) : wpAny (model prog w) A (call (.builtin "list.__eq__") [.ref l, .ref x]) Q E s := by
  refine GQ.call_here PySem.F.slot_list_eq ⟨_, hl, rfl⟩ PySem.F.entry_list_eq (PySem.F.args_list_eq_2 _ _) ?_
  obtain ⟨hp, g, d, tk, os⟩ := s
  have f2 : Looks (model prog w) hp (isSubtype (.ref C) (.type "list")) false := looks_subIn X hs
  obtain ⟨oc, od, dt, sl2⟩ := ox
  simp only at hc
  subst hc
  wp_walk using AutoSeq1.wpAny_loadPart' hl, AutoSeq1.wpAny_loadPart' hx, f2.here
  exact h
/-- the class's own == -/
structure EqL (X : Cx) (W : Wd) (n : Nat) (c : Nat) (g : List Sl → RF) : Prop where
  ex : ∃ f, findIn X.K (.ref (W.cl c)) "__eq__" = some (some (.ref f)) ∧ isFn X.K (.ref f) = true ∧ CalOk X.prog X.w X.K X.mg X.base n (.ref f) [] (spT W false g)
  sub : ∀ U ∈ kinds, subIn X.K (.type U) (.ref (W.cl c)) = some false
  sup : ∀ U ∈ kinds, subIn X.K (.ref (W.cl c)) (.type U) = some false
  ne : findIn X.K (.ref (W.cl c)) "__ne__" = some (some (.builtin "object.__ne__"))
theorem passF : ∀ {X : Cx}, Passes (L2.CX X.prog X.w) X (fun _ _ _ => False) := fun _ _ _ _ _ _ _ h => by
  obtain ⟨_, _, _, _, _, _, _, _, _, _, _, _, z⟩ := h
  exact z.elim
theorem sp_true {g : List Sl → RF} {F H : Hp} {v u : V} {d e : D} {b : Bool} (l : Le F H) (t : Tb W F H) (r : Rep W F v d) (r2 : Rep W F u e) (q : asBR (call2 g d e) = .ok b) : spT W false g [v, u] H (fun z H' => z = .bl b ∧ ∃ F', PStep W [] F H F' H') (fun _ _ _ => False) := by
  refine call2_of (B := ⟨F, H, [], 0⟩) (PStep.refl l t) r r2 ?_
  cases q2 : call2 g d e with
  | ok x =>
    rw [q2] at q
    cases x with
    | bl b' =>
      cases q
      intro F' H' v p rv
      exact ⟨rv, F', p⟩
    | _ => cases q
  | exc x => rw [q2] at q; cases q
  | bad => rw [q2] at q; cases q
theorem rc_reflC {C f : Addr} {k : Nat} {sp : Sp} {A : Around} {T id : String} (sb : L2.Sub X k A) (gd : A.guards = some []) (hs : findIn X.K (.ref C) "__eq__" = some (some (.ref f))) (hf : isFn X.K (.ref f) = true) (F : CalOk X.prog X.w X.K X.mg X.base k (.ref f) [] sp) (hx : Passes (L2.CX X.prog X.w) X E)
    {pins : List (Addr × Obj)} {s : Shared} {σ : L2.St} {H : Hp} {y : V} {u : Value} {a dx : Addr} {fs : List (Str × V)} {Q : VK} (I : L2.Inv X pins σ H s) (ry : RelV y u) (ha : H a = some (.ins C dx fs)) (hone : oneThing? .Eq u (.ref a) = none) (hT : s.TypeIs u T) (slot : Slot T (cmpInfo .Eq).2.1 id)
    (hsub : subIn X.K (.ref C) (.type T) = some false)
    (dec : ∀ Q : Value → Shared → Prop, Q .notImplemented s → wpAny (model X.prog X.w) A (call (.builtin id) [u, .ref a]) Q X.xe s) (h3 : sp [.ref a, y] H Q E) : wpAny (model X.prog X.w) A (richCompare .Eq u (.ref a)) (EP X pins σ Q) X.xe s := by
  obtain ⟨od, J⟩ := inst_of I ha
  unfold richCompare
  simp only [hone]
  refine wpAny_holding (wpAny_bind (wpAny_cRoomFor sb.room.units0 ?_))
  refine wpAny_bind (wpAny_typeOf hT (wpAny_bind (J.type.here ?_)))
  have e : (Value.type T != Value.ref C) = true := rfl
  simp only [e, if_true]
  refine wpAny_bind ((looks_subIn I.kIn hsub).here ?_)
  simp only [Bool.false_eq_true, if_false, Bool.not_false, if_true]
  refine wpAny_bind (wpAny_tryCompare_declines hT slot (dec _ ⟨rfl, ?_⟩))
  refine wpAny_bind ?_
  unfold tryCompare
  refine wpAny_bind (ifBound_K I.kIn J hs hf (wpAny_mono (run_subC F sb gd hx I (vs := [V.ref a, y]) (.cons rfl (.cons ry .nil)) h3) (fun v s' z => ?_) fun _ _ e => e))
  have := back_of z
  cases v <;> first | exact this.elim | exact wpAny_pure (wpAny_pure this)
theorem oneT_ref {a b : Addr} : oneThing? .Eq (.ref a) (.ref b) = none := by simp only [oneThing_ref]
theorem rc_step {m : Nat → Option (List Sl → RF)} {rec : D → D → R Bool} (hK : X.K = W.K) (hm : ∀ c g, m c = some g → EqL X W n c g) (h : EqB X W (n + k) (eqI rec)) : RcD X W (n + k + 1) (eqStep m rec) := by
  intro A pins s σ F H x y u1 u2 d e b sb gd I l t r1 r2 q1 q2 eb
  have epOf : ∀ {v : Value} {s' : Shared}, EP X pins σ (fun z H' => z = .bl b ∧ ∃ F', PStep W [] F H F' H') v s' → v = .bool b ∧ ∃ F' H', L2.Inv X pins σ H' s' ∧ PStep W [] F H F' H' := fun {v s'} hh => by
    obtain ⟨z, H', I', rz, rfl, F', p⟩ := hh
    exact ⟨rz, F', H', I', p⟩
  unfold eqStep at eb
  split at eb
  · rename_i hp
    simp only [Bool.and_eq_true] at hp
    cases eb
    obtain ⟨a1, a2, a3⟩ := dp_of (K := X.K) l 8 x d hp.1 q1
    obtain ⟨b1, b2, b3⟩ := dp_of (K := X.K) l 8 y e hp.2 q2
    obtain ⟨as, rd1⟩ := Dp.reads I (toPy d) x u1 a1 r1
    obtain ⟨bs, rd2⟩ := Dp.reads I (toPy e) y u2 b1 r2
    have := SeqAt.compareEq_shaped (prog := X.prog) (w := X.w) (A := A) (E := X.xe) (Q := fun v s' => v = .bool (eqP d e) ∧ ∃ F' H', L2.Inv X pins σ H' s' ∧ PStep W [] F H F' H') rd1 rd2 (Wp.shaped_of a2 a3) (Wp.shaped_of b2 b3) sb.room.units ⟨by rw [eqv_toPy 8 d e hp.1 hp.2], F, H, I, PStep.refl l t⟩
    exact this
  · have refl : ∀ c ns ds g, e = .ins c ns ds → m c = some g → declines d = true → asBR (call2 g e d) = .ok b → wpAny (model X.prog X.w) A (richCompare .Eq u1 u2) (fun v s' => v = .bool b ∧ ∃ F' H', L2.Inv X pins σ H' s' ∧ PStep W [] F H F' H') X.xe s := by
      intro c ns ds g ee hg hd hb
      subst ee
      obtain ⟨⟨f, f1, f2, C⟩, sub, sup, _⟩ := hm c g hg
      have sp := sp_true (W := W) l t q2 q1 hb
      obtain ⟨a, dx, fvs, rfl, ha, ci, _, _⟩ := q2
      obtain rfl : u2 = Value.ref a := r2
      have haH := l _ _ ha
      obtain ⟨od, J⟩ := inst_of I haH
      have sb1 : L2.Sub X n A := sb.mono (by omega)
      cases d with
      | non =>
        cases q1
        obtain rfl : u1 = Value.none := r1
        exact wpAny_mono (rc_reflC sb1 gd f1 f2 C passF I (y := .non) rfl haH rfl (by rfl) PySem.F.slot_NoneType_eq (sup _ (by decide)) (fun Q q => Wp.none_eq_ref J.at_ q) sp) (fun v s' z => epOf z) fun _ _ x => x
      | str z =>
        obtain ⟨y, rfl, _⟩ := q1
        have r10 := r1
        obtain ⟨t', rfl⟩ := r1
        exact wpAny_mono (rc_reflC sb1 gd f1 f2 C passF I r10 haH rfl (by rfl) PySem.F.slot_str_eq (sup _ (by decide)) (fun Q q => Wp.str_eq_ref J.at_ rfl q) sp) (fun v s' z => epOf z) fun _ _ x => x
      | int i =>
        cases q1
        have r10 := r1
        obtain ⟨t', rfl⟩ := r1
        exact wpAny_mono (rc_reflC sb1 gd f1 f2 C passF I r10 haH rfl (by rfl) PySem.F.slot_int_eq (sup _ (by decide)) (fun Q q => int_eq_ref J.at_ rfl q) sp) (fun v s' z => epOf z) fun _ _ x => x
      | bl i =>
        cases q1
        obtain rfl : u1 = Value.bool i := r1
        exact wpAny_mono (rc_reflC sb1 gd f1 f2 C passF I (y := .bl i) rfl haH rfl (by rfl) PySem.F.slot_bool_eq (sup _ (by decide)) (fun Q q => bool_eq_ref J.at_ rfl q) sp) (fun v s' z => epOf z) fun _ _ x => x
      | tup xs =>
        obtain ⟨p, vs, rfl, hp, _⟩ := q1
        obtain rfl : u1 = Value.ref p := r1
        obtain ⟨its, rr, ee, _⟩ := I.tuple (SqT.of (K := X.K) (l _ _ hp))
        obtain ⟨o, ho, hc, n', hd'⟩ := id ee
        exact wpAny_mono (rc_reflC sb1 gd f1 f2 C passF I (y := .ref p) rfl haH oneT_ref ⟨o, ho, hc⟩ PySem.F.slot_tuple_eq (sup _ (by decide)) (fun Q q => Wp.tup_eq_ref I.kIn ee J.at_ rfl (sup _ (by decide)) q) sp) (fun v s' z => epOf z) fun _ _ x => x
      | lst xs =>
        obtain ⟨p, vs, rfl, hp, _⟩ := q1
        obtain rfl : u1 = Value.ref p := r1
        obtain ⟨_, its, k', rr, ho⟩ := I.hok p _ (l _ _ hp)
        exact wpAny_mono (rc_reflC sb1 gd f1 f2 C passF I (y := .ref p) rfl haH oneT_ref ⟨_, ho, rfl⟩ PySem.F.slot_list_eq (sup _ (by decide)) (fun Q q => lst_eq_ref I.kIn ho J.at_ rfl (sup _ (by decide)) q) sp) (fun v s' z => epOf z) fun _ _ x => x
      | _ => cases hd
    split at eb
    · rename_i c ns ds _
      split at eb
      · rename_i g hg
        split at eb
        · rename_i hb
          obtain ⟨⟨f, f1, f2, C⟩, sub, sup, _⟩ := hm c g hg
          have sp := sp_true (W := W) l t q1 q2 eb
          obtain ⟨a, dx, fvs, rfl, ha, ci, _, _⟩ := q1
          refine wpAny_mono (rc_ownC (op := .Eq) (sb.mono (by omega)) gd f1 f2 C passF I r1 r2 ⟨Wp.s_ins (l _ _ ha), ty_of hK l q2 hb (fun U hU => nf_kind (sub U hU)) nf_same, sp⟩) (fun v s' z => epOf z) fun _ _ x => x
        · cases eb
      · cases eb
    · rename_i c ns ds _ _
      split at eb
      · rename_i g hg
        split at eb
        · rename_i hb
          exact refl c ns ds g rfl hg hb eb
        · cases eb
      · cases eb
    · obtain ⟨p, vs, rfl, hp, q1⟩ := q1
      obtain ⟨p', vs', rfl, hp', q2⟩ := q2
      obtain rfl : u1 = Value.ref p := r1
      obtain rfl : u2 = Value.ref p' := r2
      exact rc_lst h sb gd I l t hp hp' q1 q2 eb
    · obtain ⟨p, vs, rfl, hp, q1⟩ := q1
      obtain ⟨p', vs', rfl, hp', q2⟩ := q2
      obtain rfl : u1 = Value.ref p := r1
      obtain rfl : u2 = Value.ref p' := r2
      exact rc_tup h sb gd I l t hp hp' q1 q2 eb
    · cases eb
theorem eqD_py {m : Nat → Option (List Sl → RF)} : ∀ (k : Nat) (x y : D) (b : Bool), isPy 8 x = true → isPy 8 y = true → eqD m k x y = .ok b → b = eqP x y
  | 0, x, y, b, _, _, h => by cases h
  | k + 1, x, y, b, h1, h2, h => by
    change eqStep m (eqD m k) x y = .ok b at h
    unfold eqStep at h
    rw [if_pos (by rw [h1, h2]; rfl)] at h
    cases h; rfl
theorem rc_eqD {m : Nat → Option (List Sl → RF)} (hK : X.K = W.K) (inj : ∀ a b, W.cl a = W.cl b → a = b) (hfa : ∀ i, ∃ o, X.base.get? (W.fa i) = some o) (hm : ∀ c g, m c = some g → EqL X W n c g) : ∀ k, RcD X W (n + k) (eqD m k)
  | 0 => fun A pins s σ F H x y u1 u2 d e b sb gd I l t r1 r2 q1 q2 eb => by cases eb
  | k + 1 => rc_step hK hm (eqB_of (eqD_py k) inj hfa (rc_eqD hK inj hfa hm k))
/-- == -/
def eqV (m : Nat → Option (List Sl → RF)) (x y : D) : R D := match eqD m 5 x y with
  | .ok b => .ok (.bl b)
  | _ => .bad
theorem v_eq {m : Nat → Option (List Sl → RF)} (hK : X.K = W.K) (inj : ∀ a b, W.cl a = W.cl b → a = b) (hfa : ∀ i, ∃ o, X.base.get? (W.fa i) = some o) (hr : Room (n + 5) X.A) (gd : X.A.guards = some []) (hm : ∀ c g, m c = some g → EqL X W n c g) : OpR X (compareOp .Eq) (rV2 W B E (eqV m)) := by
  intro pins s σ H x y v u Q I rx ry h
  obtain ⟨F, d, e, bs, r1, r2, w⟩ := h
  unfold eqV at w
  cases q : eqD m 5 d e with
  | ok b =>
    rw [q] at w
    show wpAny (model X.prog X.w) X.A (richCompare .Eq v u) (EP X pins σ Q) X.xe s
    refine wpAny_mono (rc_eqD hK inj hfa hm 5 X.A pins s σ F H x y v u d e b ⟨hr, rfl⟩ gd I bs.sub bs.tabs rx ry r1 r2 q) (fun z s' hz => ?_) fun _ _ x => x
    obtain ⟨rfl, F', H', I', p⟩ := hz
    exact ⟨.bl b, H', I', rfl, w F' H' (.bl b) p rfl⟩
  | exc x => rw [q] at w; exact w.elim
  | bad => rw [q] at w; exact w.elim
end
end Dl

set_option maxHeartbeats 4000000
/-! DLI: != of plain data; in a list, a tuple, a text. -/
namespace Dl
open PySem PySem.W L2 PyProof.Rows
open Wp (isIns isIns_get rTy rTy_get ty_looks inst_of back_of)
section
variable {X : Cx} {W : Wd} {B : Bs} {E : XK} {n : Nat}
theorem rn_lst {f : D → D → R Bool} (h : EqB X W n f) {A : Around} {pins : List (Addr × Obj)} {s : Shared} {σ : L2.St} {F H : Hp} {a b : Addr} {vs ws : List V} {xs ys : List D} {r : Bool} (sb : L2.Sub X (n + 1) A) (gd : A.guards = some []) (I : L2.Inv X pins σ H s) (l : Le F H) (t : Tb W F H) (ha : F a = some (.lst vs)) (hb : F b = some (.lst ws)) (q1 : Reps W F vs xs) (q2 : Reps W F ws ys)
    (e : (if xs.length = ys.length then allF f xs ys else .ok false) = .ok r) : wpAny (model X.prog X.w) A (richCompare .NotEq (.ref a) (.ref b)) (fun v s' => v = .bool (!r) ∧ LoopD X W pins σ F H s') X.xe s := by
  have rd : ∀ s', LoopD X W pins σ F H s' → ∃ (its its2 : List Value) (k k2 : Nat), Vals vs its ∧ Vals ws its2 ∧ s'.heap.get? a = some { cls := .type "list", data := .seq its.toArray k } ∧ s'.heap.get? b = some { cls := .type "list", data := .seq its2.toArray k2 } := fun s' ⟨F', H', I', p⟩ => by
    obtain ⟨_, its, k, r, g⟩ := I'.hok a _ (p.sub _ _ (p.le _ _ ha))
    obtain ⟨_, its2, k2, r2, g2⟩ := I'.hok b _ (p.sub _ _ (p.le _ _ hb))
    exact ⟨its, its2, k, k2, r, r2, g, g2⟩
  have l0 : LoopD X W pins σ F H s := ⟨F, H, I, PStep.refl l t⟩
  obtain ⟨its, its2, k, k2, r1, r2, g1, g2⟩ := rd s l0
  have lv := q1.length
  have lw := q2.length
  refine wpAny_richCompare_same_room (op := .NotEq) ⟨_, g1, rfl⟩ ⟨_, g2, rfl⟩ PySem.F.slot_list_ne (GQ.call_here PySem.F.slot_list_ne ⟨_, g1, rfl⟩ PySem.F.entry_list_ne (PySem.F.args_list_ne_2 _ _) ?_) sb.room.units0
  by_cases hl : xs.length = ys.length
  · rw [if_pos hl] at e
    refine list_neB (R := wants (fun v s' => v ≠ .notImplemented ∧ v = .bool (!r) ∧ LoopD X W pins σ F H s') X.xe) a b xs.length (fun i s' => LoopD X W pins σ F H s' ∧ i ≤ xs.length ∧ allF f (xs.drop i) (ys.drop i) = .ok r) (fun i s' q => ?_) (fun s' q => ?_) ⟨l0, Nat.zero_le _, by simpa using e⟩
    · obtain ⟨ld, hi, hf⟩ := q
      obtain ⟨its, its2, k, k2, r1, r2, g1, g2⟩ := rd s' ld
      refine ⟨its.toArray, its2.toArray, ⟨k, k2, g1, g2, by rw [List.size_toArray, ← r1.length, lv], by rw [List.size_toArray, ← r2.length, lw, hl]⟩, fun h1 h2 => ?_⟩
      obtain ⟨F', H', I', p⟩ := ld
      have h1' : i < its.length := by simpa using h1
      have h2' : i < its2.length := by simpa using h2
      have hv : i < vs.length := by rw [r1.length]; exact h1'
      have hw : i < ws.length := by rw [r2.length]; exact h2'
      obtain ⟨z1, e1, rv1⟩ := r1.get (List.getElem?_eq_getElem hv)
      obtain ⟨z2, e2, rv2⟩ := r2.get (List.getElem?_eq_getElem hw)
      obtain ⟨d1, ed1, rp1⟩ := q1.get (List.getElem?_eq_getElem hv)
      obtain ⟨d2, ed2, rp2⟩ := q2.get (List.getElem?_eq_getElem hw)
      have ez1 : its.toArray[i] = z1 := by rw [List.getElem?_eq_getElem h1'] at e1; simpa using Option.some.inj e1
      have ez2 : its2.toArray[i] = z2 := by rw [List.getElem?_eq_getElem h2'] at e2; simpa using Option.some.inj e2
      rw [ez1, ez2]
      rcases all_drop hf ed1 ed2 with ⟨c, hf'⟩ | ⟨c, rfl⟩
      · refine wpAny_mono (h A.in1 pins s' σ F' H' _ _ z1 z2 d1 d2 true sb.in1 gd I' p.sub p.tabs rv1 rv2 (rp1.le p.le) (rp2.le p.le) c) (fun z s2 ⟨ez, F2, H2, I2, p2⟩ => ?_) fun _ _ x => x
        subst ez
        rw [if_pos rfl]
        exact ⟨⟨F2, H2, I2, p.trans0 p2⟩, by rw [← lv]; exact hv, hf'⟩
      · refine wpAny_mono (h A.in1 pins s' σ F' H' _ _ z1 z2 d1 d2 false sb.in1 gd I' p.sub p.tabs rv1 rv2 (rp1.le p.le) (rp2.le p.le) c) (fun z s2 ⟨ez, F2, H2, I2, p2⟩ => ?_) fun _ _ x => x
        subst ez
        rw [if_neg Bool.false_ne_true]
        have ld2 : LoopD X W pins σ F H s2 := ⟨F2, H2, I2, p.trans0 p2⟩
        obtain ⟨jts, jts2, m, m2, s1, s2', k1, k2'⟩ := rd s2 ld2
        exact ⟨⟨jts.toArray, jts2.toArray, m, m2, k1, k2', by rw [List.size_toArray, ← s1.length, lv], by rw [List.size_toArray, ← s2'.length, lw, hl]⟩, nofun, rfl, ld2⟩
    · obtain ⟨ld, _, hf⟩ := q
      rw [List.drop_length, hl, List.drop_length] at hf
      simp only [allF] at hf
      cases hf
      exact ⟨nofun, rfl, ld⟩
  · rw [if_neg hl] at e
    cases e
    refine list_neL (R := wants (fun v s' => v ≠ .notImplemented ∧ v = .bool true ∧ LoopD X W pins σ F H s') X.xe) a b g1 g2 ?_ ⟨nofun, rfl, l0⟩
    rw [List.size_toArray, List.size_toArray, ← r1.length, ← r2.length, lv, lw]
    exact hl
theorem rn_tup {f : D → D → R Bool} (h : EqB X W n f) {A : Around} {pins : List (Addr × Obj)} {s : Shared} {σ : L2.St} {F H : Hp} {a b : Addr} {vs ws : List V} {xs ys : List D} {r : Bool} (sb : L2.Sub X (n + 1) A) (gd : A.guards = some []) (I : L2.Inv X pins σ H s) (l : Le F H) (t : Tb W F H) (ha : F a = some (.tup vs)) (hb : F b = some (.tup ws)) (q1 : Reps W F vs xs) (q2 : Reps W F ws ys)
    (e : allF f xs ys = .ok r) : wpAny (model X.prog X.w) A (richCompare .NotEq (.ref a) (.ref b)) (fun v s' => v = .bool (!r) ∧ LoopD X W pins σ F H s') X.xe s := by
  have l0 : LoopD X W pins σ F H s := ⟨F, H, I, PStep.refl l t⟩
  obtain ⟨its, r1, ⟨⟨c1, dd1, dt1, sl1⟩, ho1, hc1, n1, hd1⟩, _⟩ := I.tuple (SqT.of (K := X.K) (l _ _ ha))
  obtain ⟨its2, r2, ⟨⟨c2, dd2, dt2, sl2⟩, ho2, hc2, n2, hd2⟩, _⟩ := I.tuple (SqT.of (K := X.K) (l _ _ hb))
  simp only at hc1 hd1 hc2 hd2
  subst hc1 hd1 hc2 hd2
  have lv := q1.length
  have lw := q2.length
  refine wpAny_richCompare_same_room (op := .NotEq) ⟨_, ho1, rfl⟩ ⟨_, ho2, rfl⟩ PySem.F.slot_tuple_ne (GQ.call_here PySem.F.slot_tuple_ne ⟨_, ho1, rfl⟩ PySem.F.entry_tuple_ne (PySem.F.args_tuple_ne_2 _ _) ?_) sb.room.units0
  refine tuple_neB (R := wants (fun v s' => v ≠ .notImplemented ∧ v = .bool (!r) ∧ LoopD X W pins σ F H s') X.xe) a b its.toArray its2.toArray n1 n2 dd1 dd2 sl1 sl2 (fun i s' => LoopD X W pins σ F H s' ∧ (i ≤ xs.length ∧ i ≤ ys.length) ∧ allF f (xs.drop i) (ys.drop i) = .ok r) (fun i h1 h2 s' q => ?_) (fun i s' hge q => ?_) ho1 ho2 ⟨l0, ⟨Nat.zero_le _, Nat.zero_le _⟩, by simpa using e⟩
  · obtain ⟨ld, _, hf⟩ := q
    obtain ⟨F', H', I', p⟩ := ld
    have h1' : i < its.length := by simpa using h1
    have h2' : i < its2.length := by simpa using h2
    have hv : i < vs.length := by rw [r1.length]; exact h1'
    have hw : i < ws.length := by rw [r2.length]; exact h2'
    obtain ⟨z1, e1, rv1⟩ := r1.get (List.getElem?_eq_getElem hv)
    obtain ⟨z2, e2, rv2⟩ := r2.get (List.getElem?_eq_getElem hw)
    obtain ⟨d1, ed1, rp1⟩ := q1.get (List.getElem?_eq_getElem hv)
    obtain ⟨d2, ed2, rp2⟩ := q2.get (List.getElem?_eq_getElem hw)
    have ez1 : its.toArray[i] = z1 := by rw [List.getElem?_eq_getElem h1'] at e1; simpa using Option.some.inj e1
    have ez2 : its2.toArray[i] = z2 := by rw [List.getElem?_eq_getElem h2'] at e2; simpa using Option.some.inj e2
    rw [ez1, ez2]
    rcases all_drop hf ed1 ed2 with ⟨c, hf'⟩ | ⟨c, rfl⟩
    · refine wpAny_mono (h A.in1 pins s' σ F' H' _ _ z1 z2 d1 d2 true sb.in1 gd I' p.sub p.tabs rv1 rv2 (rp1.le p.le) (rp2.le p.le) c) (fun z s2 ⟨ez, F2, H2, I2, p2⟩ => ?_) fun _ _ x => x
      subst ez
      rw [if_pos rfl]
      exact ⟨⟨F2, H2, I2, p.trans0 p2⟩, ⟨by rw [← lv]; exact hv, by rw [← lw]; exact hw⟩, hf'⟩
    · refine wpAny_mono (h A.in1 pins s' σ F' H' _ _ z1 z2 d1 d2 false sb.in1 gd I' p.sub p.tabs rv1 rv2 (rp1.le p.le) (rp2.le p.le) c) (fun z s2 ⟨ez, F2, H2, I2, p2⟩ => ?_) fun _ _ x => x
      subst ez
      rw [if_neg Bool.false_ne_true]
      exact ⟨nofun, rfl, F2, H2, I2, p.trans0 p2⟩
  · obtain ⟨ld, hi, hf⟩ := q
    refine ⟨nofun, ?_, ld⟩
    have s1 : its.toArray.size = xs.length := by rw [List.size_toArray, ← r1.length, lv]
    have s2 : its2.toArray.size = ys.length := by rw [List.size_toArray, ← r2.length, lw]
    rw [s1, s2] at hge ⊢
    have hx : xs.drop i = [] ∨ ys.drop i = [] := hge.imp List.drop_of_length_le List.drop_of_length_le
    have key : ∀ (as bs : List D), (as = [] ∨ bs = []) → allF f as bs = .ok r → r = (as.length == bs.length) := fun as bs hh hf => by
      cases as <;> cases bs <;> simp only [allF] at hf <;> first | (cases hf; rfl) | (rcases hh with z | z <;> cases z)
    have := key _ _ hx hf
    rw [this]
    congr 1
    simp only [List.length_drop]
    rw [Bool.eq_iff_iff]
    simp only [bne_iff_ne, ne_eq, Bool.not_eq_true', beq_eq_false_iff_ne]
    omega
def insB : D → Bool
  | .ins _ _ _ => true
  | _ => false
def neV (m : Nat → Option (List Sl → RF)) (x y : D) : R D := if insB y && !insB x then .bad else match eqD m 5 x y with
  | .ok b => .ok (.bl (!b))
  | _ => .bad
theorem v_ne {m : Nat → Option (List Sl → RF)} (hK : X.K = W.K) (inj : ∀ a b, W.cl a = W.cl b → a = b) (hfa : ∀ i, ∃ o, X.base.get? (W.fa i) = some o) (hr : Room (n + 5) X.A) (gd : X.A.guards = some []) (hm : ∀ c g, m c = some g → EqL X W n c g) : OpR X (compareOp .NotEq) (rV2 W B E (neV m)) := by
  intro pins s σ H x y v u Q I rx ry h
  obtain ⟨F, d, e, bs, r1, r2, w⟩ := h
  have l := bs.sub
  have t := bs.tabs
  unfold neV at w
  split at w
  · exact w.elim
  · rename_i hi
    cases q : eqD m 5 d e with
    | exc x => rw [q] at w; exact w.elim
    | bad => rw [q] at w; exact w.elim
    | ok b =>
      rw [q] at w
      have fin : ∀ {z : Value} {s' : Shared}, (z = .bool (!b) ∧ LoopD X W pins σ F H s') → EP X pins σ Q z s' := fun {z s'} hz => by
        obtain ⟨rfl, F', H', I', p⟩ := hz
        exact ⟨.bl (!b), H', I', rfl, w F' H' (.bl (!b)) p rfl⟩
      have h4 := eqB_of (X := X) (eqD_py 4) inj hfa (rc_eqD hK inj hfa hm 4)
      show wpAny (model X.prog X.w) X.A (richCompare .NotEq v u) (EP X pins σ Q) X.xe s
      change eqStep m (eqD m 4) d e = .ok b at q
      unfold eqStep at q
      split at q
      · rename_i hp
        simp only [Bool.and_eq_true] at hp
        cases q
        obtain ⟨a1, a2, a3⟩ := dp_of (K := X.K) l 8 x d hp.1 r1
        obtain ⟨b1, b2, b3⟩ := dp_of (K := X.K) l 8 y e hp.2 r2
        exact op_neD hr.units pins s σ H x y v u Q I rx ry ⟨toPy d, toPy e, a1, b1, Wp.shaped_of a2 a3, Wp.shaped_of b2 b3, by rw [eqv_toPy 8 d e hp.1 hp.2]; exact out_flat bs w rfl⟩
      · split at q
        · rename_i c ns ds _
          split at q
          · rename_i g hg
            split at q
            · rename_i hb
              obtain ⟨⟨f, f1, f2, C⟩, sub, sup, ne⟩ := hm c g hg
              have sp := sp_true (W := W) l t r1 r2 q
              obtain ⟨a, dx, fvs, rfl, ha, ci, _, _⟩ := r1
              refine op_neC f1 f2 ne (by rw [hK]; exact ci.1.hm) C (hr.mono (by omega)) gd passF rfl pins s σ H _ y v u Q I rx ry ⟨Wp.s_ins (l _ _ ha), ty_of hK l r2 hb (fun U hU => nf_kind (sub U hU)) nf_same, ?_⟩
              obtain ⟨F1, args, s1, t1, ao, h1⟩ := sp
              refine ⟨F1, args, s1, t1, ao, ?_⟩
              cases z : g args with
              | ok p =>
                obtain ⟨d', outs⟩ := p
                rw [z] at h1
                intro F' H' v' p ho r'
                obtain ⟨rfl, F2, p2⟩ := h1 F' H' v' p ho r'
                exact ⟨b, rfl, w F2 H' (.bl (!b)) p2 rfl⟩
              | exc x => rw [z] at h1; exact h1
              | bad => rw [z] at h1; exact h1
            · cases q
          · cases q
        · rename_i c ns ds hnd _
          exfalso
          apply hi
          cases d <;> first | rfl | exact absurd rfl (hnd _ _ _)
        · obtain ⟨p, vs, rfl, hp, q1⟩ := r1
          obtain ⟨p', vs', rfl, hp', q2⟩ := r2
          obtain rfl : v = Value.ref p := rx
          obtain rfl : u = Value.ref p' := ry
          exact wpAny_mono (rn_lst h4 ⟨hr, rfl⟩ gd I l t hp hp' q1 q2 q) (fun z s' hz => fin hz) fun _ _ x => x
        · obtain ⟨p, vs, rfl, hp, q1⟩ := r1
          obtain ⟨p', vs', rfl, hp', q2⟩ := r2
          obtain rfl : v = Value.ref p := rx
          obtain rfl : u = Value.ref p' := ry
          exact wpAny_mono (rn_tup h4 ⟨hr, rfl⟩ gd I l t hp hp' q1 q2 q) (fun z s' hz => fin hz) fun _ _ x => x
        · cases q
/-! ### in -/
def inF (f : D → D → R Bool) (x : D) : List D → R Bool
  | [] => .ok false
  | y :: ys => (match f y x with
    | .ok true => .ok true
    | .ok false => inF f x ys
    | _ => .bad)
def inV (cm m : Nat → Option (List Sl → RF)) (x c : D) : R D := match c with
  | .ins k _ _ => (match cm k with
    | some g => (match asBR (call2 g c x) with
      | .ok b => .ok (.bl b)
      | _ => .bad)
    | none => .bad)
  | .lst ys => (match inF (eqI (eqD m 4)) x ys with
    | .ok b => .ok (.bl b)
    | _ => .bad)
  | .tup ys => (match inF (eqI (eqD m 4)) x ys with
    | .ok b => .ok (.bl b)
    | _ => .bad)
  | .str s => (match x with
    | .str [c] => .ok (.bl (s.contains c))
    | _ => .bad)
  | _ => .bad
def notR : R D → R D
  | .ok (.bl b) => .ok (.bl (!b))
  | _ => .bad
theorem contains_tup {prog : Program} {w : World} {A : Around} {R : Result → Shared → Prop} (l : Addr) (v : Value) (items : Array Value) (n : Nat) (dd : Option Addr) (sl : Array (Option Value)) (I : Nat → Shared → Prop)
    (turn : ∀ i (h1 : i < items.size) s, I i s → wpAny (model prog w) A.in1 (eqBool items[i] v) (fun r s' => if r = true then R (.ok (.ret (.bool true))) s' else I (i + 1) s') (fun e s' => R (.error e) s') s)
    (fin : ∀ s, I items.size s → R (.ok (.ret (.bool false))) s) {s : Shared} (hl1 : s.heap.get? l = some { cls := .type "tuple", dict := dd, data := .seq items n, slots := sl }) (h : I 0 s) :
    wpAny (model prog w) A.in1 (Builtin.«tuple.__contains__» ⟨[.ref l, v], []⟩) (GQ.FinOf prog w A R) (fun e s' => R (.error e) s') s := by
  have h0 := h
  obtain ⟨hp, g, d, tk, os⟩ := s
  wp_walk using AutoSeq1.wpAny_loadPart' hl1, PySem.MeetsSeq2.wpAny_forIn_array _ (fun rest b s' => b.1 = none ∧ ∃ i, rest = items.toList.drop i ∧ i ≤ items.size ∧ I i s') _
  case turn =>
    rintro y rest b s' ⟨hb', i, hz, hi, hI⟩
    have hlt : i < items.toList.length := by
      rcases Nat.lt_or_ge i items.toList.length with h' | h'
      · exact h'
      · rw [List.drop_of_length_le h'] at hz; cases hz
    have h1 : i < items.size := by simpa using hlt
    rw [List.drop_eq_getElem_cons hlt] at hz
    injection hz with hy hrest
    have hy : y = items[i] := by simpa using hy
    subst hy
    refine wpAny_bind (wpAny_mono (turn i h1 s' hI) (fun r s2 q2 => ?_) fun _ _ x => x)
    cases r with
    | true =>
      rw [if_pos rfl] at q2
      wp_walk
      exact q2
    | false =>
      rw [if_neg Bool.false_ne_true] at q2
      wp_walk
      exact ⟨rfl, i + 1, hrest, h1, q2⟩
  case fin =>
    rintro ⟨b1, b2⟩ s' ⟨hb', i, hz, hi, hI⟩
    simp only at hb'
    subst hb'
    have hge : items.size ≤ i := by
      rcases Nat.lt_or_ge i items.toList.length with h' | h'
      · rw [List.drop_eq_getElem_cons h'] at hz; cases hz
      · simpa using h'
    have hR := fin s' ((Nat.le_antisymm hi hge) ▸ hI)
    wp_walk
    exact hR
  case h =>
    exact ⟨rfl, 0, by simp, Nat.zero_le _, h0⟩
theorem in_drop {f : D → D → R Bool} {x : D} {ys : List D} {i : Nat} {b : Bool} {y : D} (h : inF f x (ys.drop i) = .ok b) (hy : ys[i]? = some y) : (f y x = .ok false ∧ inF f x (ys.drop (i + 1)) = .ok b) ∨ (f y x = .ok true ∧ b = true) := by
  have h2 := get_lt hy
  rw [List.drop_eq_getElem_cons h2] at h
  rw [List.getElem?_eq_getElem h2] at hy
  cases hy
  simp only [inF] at h
  split at h
  · rename_i q; cases h; exact .inr ⟨q, rfl⟩
  · rename_i q; exact .inl ⟨q, h⟩
  · cases h
/-- x in a list or a tuple: what contains gives -/
theorem in_seq {f : D → D → R Bool} (h : EqB X W n f) {pins : List (Addr × Obj)} {s : Shared} {σ : L2.St} {F H : Hp} {a : Addr} {vs : List V} {ys : List D} {d : D} {x : V} {u : Value} {r : Bool} (hr : Room (n + 1) X.A) (gd : X.A.guards = some []) (I : L2.Inv X pins σ H s) (l : Le F H) (t : Tb W F H)
    (ha : F a = some (.lst vs) ∨ F a = some (.tup vs)) (q1 : Reps W F vs ys) (rx : RelV x u) (rp : Rep W F x d) (e : inF f d ys = .ok r) : wpAny (model X.prog X.w) X.A (contains (.ref a) u) (fun z s' => z = r ∧ LoopD X W pins σ F H s') X.xe s := by
  have sb : L2.Sub X (n + 1) X.A := ⟨hr, rfl⟩
  have l0 : LoopD X W pins σ F H s := ⟨F, H, I, PStep.refl l t⟩
  have lv := q1.length
  have turn : ∀ (its : List Value), Vals vs its → ∀ (i : Nat) (s' : Shared) (h1 : i < its.toArray.size), LoopD X W pins σ F H s' → inF f d (ys.drop i) = .ok r →
      wpAny (model X.prog X.w) X.A.in1 (eqBool its.toArray[i] u) (fun z s2 => LoopD X W pins σ F H s2 ∧ if z = true then r = true else inF f d (ys.drop (i + 1)) = .ok r) X.xe s' := fun its r1 i s' h1 ld hf => by
    obtain ⟨F', H', I', p⟩ := ld
    have h1' : i < its.length := by simpa using h1
    have hv : i < vs.length := by rw [r1.length]; exact h1'
    obtain ⟨z1, e1, rv1⟩ := r1.get (List.getElem?_eq_getElem hv)
    obtain ⟨d1, ed1, rp1⟩ := q1.get (List.getElem?_eq_getElem hv)
    have ez1 : its.toArray[i] = z1 := by rw [List.getElem?_eq_getElem h1'] at e1; simpa using Option.some.inj e1
    rw [ez1]
    rcases in_drop hf ed1 with ⟨c, hf'⟩ | ⟨c, hr⟩
    · refine wpAny_mono (h X.A.in1 pins s' σ F' H' _ _ z1 u d1 d false sb.in1 gd I' p.sub p.tabs rv1 rx (rp1.le p.le) (rp.le p.le) c) (fun z s2 ⟨ez, F2, H2, I2, p2⟩ => ?_) fun _ _ x => x
      subst ez
      exact ⟨⟨F2, H2, I2, p.trans0 p2⟩, by rw [if_neg Bool.false_ne_true]; exact hf'⟩
    · refine wpAny_mono (h X.A.in1 pins s' σ F' H' _ _ z1 u d1 d true sb.in1 gd I' p.sub p.tabs rv1 rx (rp1.le p.le) (rp.le p.le) c) (fun z s2 ⟨ez, F2, H2, I2, p2⟩ => ?_) fun _ _ x => x
      subst ez
      exact ⟨⟨F2, H2, I2, p.trans0 p2⟩, by rw [if_pos rfl]; exact hr⟩
  rcases ha with ha | ha
  · have rd : ∀ s', LoopD X W pins σ F H s' → ∃ (its : List Value) (k : Nat), Vals vs its ∧ s'.heap.get? a = some { cls := .type "list", data := .seq its.toArray k } := fun s' ⟨F', H', I', p⟩ => by
      obtain ⟨_, its, k, r, g⟩ := I'.hok a _ (p.sub _ _ (p.le _ _ ha))
      exact ⟨its, k, r, g⟩
    obtain ⟨its, k, r1, g1⟩ := rd s l0
    refine wpAny_contains_slot (T := "list") ⟨_, g1, rfl⟩ PySem.F.slot_list_contains (GQ.call_here PySem.F.slot_list_contains ⟨_, g1, rfl⟩ PySem.F.entry_list_contains (PySem.F.args_list_contains_2 _ _) ?_)
    have hrec := Wp.contains_loopG (prog := X.prog) (w := X.w) (A := X.A) (R := wants (fun v s' => wpAny (model X.prog X.w) X.A (truthy v) (fun z s' => z = r ∧ LoopD X W pins σ F H s') X.xe s') X.xe) a u ys.length (fun i s' => LoopD X W pins σ F H s' ∧ inF f d (ys.drop i) = .ok r) (fun i s' q => by
      obtain ⟨ld, hf⟩ := q
      obtain ⟨its, k, r1, g1⟩ := rd s' ld
      refine ⟨its.toArray, k, g1, by rw [List.size_toArray, ← r1.length, lv], fun hh => wpAny_mono (turn its r1 i s' hh ld hf) (fun z s2 q => ?_) fun _ _ e => e⟩
      obtain ⟨ld2, q⟩ := q
      cases z with
      | true => rw [if_pos rfl] at q ⊢; exact wpAny_truthy_bool ⟨q.symm, ld2⟩
      | false => rw [if_neg Bool.false_ne_true] at q ⊢; exact ⟨ld2, q⟩) (fun s' q => by
      obtain ⟨ld, hf⟩ := q
      rw [List.drop_length] at hf
      cases hf
      exact wpAny_truthy_bool ⟨rfl, ld⟩) _ 0 rfl (Nat.zero_le _) s ⟨l0, by simpa using e⟩
    obtain ⟨hp, g, d, tk, os⟩ := s
    wp_walk using AutoSeq1.wpAny_loadPart' g1
    exact ⟨plainId_quiet (by decide +kernel) _, codeAny_builtin (entryFor_of_tree (by kernel_rfl)) (by
      rw [Around.under_plainId (by decide +kernel) _]
      exact hrec)⟩
  · obtain ⟨its, r1, ⟨⟨c1, dd1, dt1, sl1⟩, ho1, hc1, n1, hd1⟩, _⟩ := I.tuple (SqT.of (K := X.K) (l _ _ ha))
    simp only at hc1 hd1
    subst hc1 hd1
    refine wpAny_contains_slot (T := "tuple") ⟨_, ho1, rfl⟩ PySem.F.slot_tuple_contains (GQ.call_here PySem.F.slot_tuple_contains ⟨_, ho1, rfl⟩ PySem.F.entry_tuple_contains (PySem.F.args_tuple_contains_2 _ _) ?_)
    refine contains_tup (R := wants (fun v s' => wpAny (model X.prog X.w) X.A (truthy v) (fun z s' => z = r ∧ LoopD X W pins σ F H s') X.xe s') X.xe) a u its.toArray n1 dd1 sl1 (fun i s' => LoopD X W pins σ F H s' ∧ inF f d (ys.drop i) = .ok r) (fun i h1 s' q => ?_) (fun s' q => ?_) ho1 ⟨l0, by simpa using e⟩
    · refine wpAny_mono (turn its r1 i s' h1 q.1 q.2) (fun z s2 q => ?_) fun _ _ e => e
      obtain ⟨ld2, q⟩ := q
      cases z with
      | true => rw [if_pos rfl] at q ⊢; exact wpAny_truthy_bool ⟨q.symm, ld2⟩
      | false => rw [if_neg Bool.false_ne_true] at q ⊢; exact ⟨ld2, q⟩
    · obtain ⟨ld, hf⟩ := q
      rw [List.size_toArray, ← r1.length, lv, List.drop_length] at hf
      cases hf
      exact wpAny_truthy_bool ⟨rfl, ld⟩
/-- the class's own in -/
structure InL (X : Cx) (W : Wd) (n : Nat) (c : Nat) (g : List Sl → RF) : Prop where
  ex : ∃ f, findIn X.K (.ref (W.cl c)) "__contains__" = some (some (.ref f)) ∧ isFn X.K (.ref f) = true ∧ CalOk X.prog X.w X.K X.mg X.base n (.ref f) [] (spT W false g)
theorem in_any {cm m : Nat → Option (List Sl → RF)} (hK : X.K = W.K) (inj : ∀ a b, W.cl a = W.cl b → a = b) (hfa : ∀ i, ∃ o, X.base.get? (W.fa i) = some o) (hr : Room (n + 5) X.A) (gd : X.A.guards = some []) (hm : ∀ c g, m c = some g → EqL X W n c g) (hcm : ∀ c g, cm c = some g → InL X W n c g)
    {pins : List (Addr × Obj)} {s : Shared} {σ : L2.St} {F H : Hp} {x y : V} {v u : Value} {d e : D} {r : D} (I : L2.Inv X pins σ H s) (l : Le F H) (t : Tb W F H) (rx : RelV x v) (ry : RelV y u) (r1 : Rep W F x d) (r2 : Rep W F y e) (hns : ∀ z, e ≠ .str z) (w : inV cm m d e = .ok r) :
    ∃ b, r = .bl b ∧ wpAny (model X.prog X.w) X.A (contains u v) (fun z s' => z = b ∧ LoopD X W pins σ F H s') X.xe s := by
  have h4 := eqB_of (X := X) (eqD_py 4) inj hfa (rc_eqD hK inj hfa hm 4)
  cases e with
  | lst ys =>
    simp only [inV] at w
    split at w
    · rename_i b q
      cases w
      obtain ⟨p, vs, rfl, hp, rs⟩ := r2
      obtain rfl : u = Value.ref p := ry
      exact ⟨b, rfl, in_seq h4 hr gd I l t (.inl hp) rs rx r1 q⟩
    · cases w
  | tup ys =>
    simp only [inV] at w
    split at w
    · rename_i b q
      cases w
      obtain ⟨p, vs, rfl, hp, rs⟩ := r2
      obtain rfl : u = Value.ref p := ry
      exact ⟨b, rfl, in_seq h4 hr gd I l t (.inr hp) rs rx r1 q⟩
    · cases w
  | str z => exact absurd rfl (hns z)
  | ins k ns ds =>
    simp only [inV] at w
    split at w
    · rename_i g hg
      split at w
      · rename_i b q
        cases w
        obtain ⟨f, f1, f2, C⟩ := (hcm k g hg).ex
        have sp := sp_true (W := W) l t r2 r1 q
        obtain ⟨a, dx, fvs, rfl, ha, ci, _, _⟩ := r2
        obtain rfl : u = Value.ref a := ry
        obtain ⟨od, J⟩ := inst_of I (l _ _ ha)
        obtain ⟨mm, hF⟩ := I.fr
        refine ⟨b, rfl, contains_K hF I.ok.mod.kin J f1 f2 ?_⟩
        refine wpAny_mono (run_subC C ⟨hr.mono (by omega), rfl⟩ gd passF I (vs := [V.ref a, x]) (.cons rfl (.cons rx .nil)) sp) (fun z s' hz => ?_) fun _ _ x => x
        obtain ⟨y', H', I', ry', rfl, F', p⟩ := hz
        obtain rfl : z = Value.bool b := ry'
        exact wpAny_truthy_bool ⟨rfl, F', H', I', p⟩
      · cases w
    · cases w
  | _ => simp [inV] at w
theorem v_in {cm m : Nat → Option (List Sl → RF)} (hK : X.K = W.K) (inj : ∀ a b, W.cl a = W.cl b → a = b) (hfa : ∀ i, ∃ o, X.base.get? (W.fa i) = some o) (hr : Room (n + 5) X.A) (gd : X.A.guards = some []) (hm : ∀ c g, m c = some g → EqL X W n c g) (hcm : ∀ c g, cm c = some g → InL X W n c g) : OpR X (compareOp .In) (rV2 W B E (inV cm m)) := by
  intro pins s σ H x y v u Q I rx ry h
  obtain ⟨F, d, e, bs, r1, r2, w⟩ := h
  by_cases hs : ∃ z, e = .str z
  · obtain ⟨z, rfl⟩ := hs
    cases d with
    | str zz =>
      match zz with
      | [c] =>
        obtain ⟨z1, rfl, e1, _⟩ := r1
        obtain ⟨z2, rfl, rfl, _⟩ := r2
        have ez : z1 = ⟨#[c]⟩ := by rw [← str_eq (z := z1), e1]
        subst ez
        exact op_in_sign pins s σ H _ _ v u Q I rx ry ⟨c, z2, rfl, rfl, out_flat bs w (by simp [Rep])⟩
      | [] => exact w.elim
      | _ :: _ :: _ => exact w.elim
    | _ => exact w.elim
  · cases q : inV cm m d e with
    | ok r =>
      rw [q] at w
      obtain ⟨b, rfl, main⟩ := in_any hK inj hfa hr gd hm hcm I bs.sub bs.tabs rx ry r1 r2 (fun z hz => hs ⟨z, hz⟩) q
      refine wpAny_bind (wpAny_mono main (fun z s' hz => wpAny_pure ?_) fun _ _ x => x)
      obtain ⟨rfl, F', H', I', p⟩ := hz
      exact ⟨.bl z, H', I', rfl, w F' H' (.bl z) p rfl⟩
    | exc x => rw [q] at w; exfalso; cases e <;> simp only [inV] at q <;> first | (cases q; done) | (split at q <;> first | (cases q; done) | (split at q <;> cases q)) | exact hs ⟨_, rfl⟩
    | bad => rw [q] at w; exact w.elim
def notInV (cm m : Nat → Option (List Sl → RF)) (x c : D) : R D := notR (inV cm m x c)
theorem v_notin {cm m : Nat → Option (List Sl → RF)} (hK : X.K = W.K) (inj : ∀ a b, W.cl a = W.cl b → a = b) (hfa : ∀ i, ∃ o, X.base.get? (W.fa i) = some o) (hr : Room (n + 5) X.A) (gd : X.A.guards = some []) (hm : ∀ c g, m c = some g → EqL X W n c g) (hcm : ∀ c g, cm c = some g → InL X W n c g) : OpR X (compareOp .NotIn) (rV2 W B E (notInV cm m)) := by
  intro pins s σ H x y v u Q I rx ry h
  obtain ⟨F, d, e, bs, r1, r2, w⟩ := h
  by_cases hs : ∃ z, e = .str z
  · obtain ⟨z, rfl⟩ := hs
    cases d with
    | str zz =>
      match zz with
      | [c] =>
        obtain ⟨z1, rfl, e1, _⟩ := r1
        obtain ⟨z2, rfl, rfl, _⟩ := r2
        have ez : z1 = ⟨#[c]⟩ := by rw [← str_eq (z := z1), e1]
        subst ez
        exact op_notIn_sign pins s σ H _ _ v u Q I rx ry ⟨c, z2, rfl, rfl, out_flat bs w (by simp [Rep])⟩
      | [] => exact w.elim
      | _ :: _ :: _ => exact w.elim
    | _ => exact w.elim
  · unfold notInV at w
    cases q : inV cm m d e with
    | ok r =>
      rw [q] at w
      obtain ⟨b, rfl, main⟩ := in_any hK inj hfa hr gd hm hcm I bs.sub bs.tabs rx ry r1 r2 (fun z hz => hs ⟨z, hz⟩) q
      refine wpAny_bind (wpAny_mono main (fun z s' hz => wpAny_pure ?_) fun _ _ x => x)
      obtain ⟨rfl, F', H', I', p⟩ := hz
      exact ⟨.bl (!z), H', I', rfl, w F' H' (.bl (!z)) p rfl⟩
    | exc x => rw [q] at w; exact w.elim
    | bad => rw [q] at w; exact w.elim
end
end Dl

set_option maxHeartbeats 4000000
/-! DLJ: calls of built-ins over plain data. -/
namespace Dl
open PySem PySem.W L2 PyProof.Rows
open Wp (rTy rTy_get)
section
variable {X : Cx} {W : Wd} {B : Bs} {E : XK}
/-- what comes of values: a new thing, owned -/
def OutO (W : Wd) (B : Bs) (E : XK) (F H : Hp) (r : R D) (Q : VK) : Prop := match r with
  | .ok d => ∀ F' H' a, PStep W [] F H F' H' → H a = none → F' a = none → Own W F' H' a d → Q (.ref a) H'
  | .exc x => Xk W B.A B.F B.H E x
  | .bad => False
def rVsO (W : Wd) (B : Bs) (E : XK) (g : List D → R D) : List V → Hp → VK → Prop := fun vs H Q => ∃ F ds, PStep W B.A B.F B.H F H ∧ Reps W F vs ds ∧ OutO W B E F H (g ds) Q
def mBi (g : List D → R D) (m : M (List D)) : M D := M.bind m fun ds => M.lift (g ds)
theorem tCB_of {g : List D → R D} {m : M (List D)} {σ : L2.St} {H : Hp} {Q : VK} (h : tD W B E (mBi g m) σ H Q) : tCB (rVs W B E g) (tA W B E m) σ H Q := by
  obtain ⟨F, env, ag, h⟩ := h
  refine wantA_bind (G := fun F H env r => Want W B E F H env σ Q r) ag h (fun _ _ _ _ _ _ _ l w => Want.st w l) (fun _ _ _ _ w => w) (fun _ _ _ w => w) fun ds env1 F1 H1 vs l g1 r w => ?_
  exact ⟨F1, ds, g1.bs, r, want_lift g1 w⟩
theorem wantO_lift {r : R D} {σ : L2.St} {H F : Hp} {env : Ev} {Q : VK} (g : Ag W B F H σ env) (h : WantO W B E F H env σ Q (M.lift r env)) : OutO W B E F H r Q := by
  cases r with
  | ok d => exact fun F' H' a p n n' o => h F' H' a p.stp (g.step p) (g.nw n) n n' o
  | exc x => exact h
  | bad => exact h
theorem tCB_ofO {g : List D → R D} {m : M (List D)} {σ : L2.St} {H : Hp} {Q : VK} (h : tO W B E (mBi g m) σ H Q) : tCB (rVsO W B E g) (tA W B E m) σ H Q := by
  obtain ⟨F, env, ag, h⟩ := h
  refine wantA_bind (G := fun F H env r => WantO W B E F H env σ Q r) ag h (fun _ _ _ _ _ _ _ l w => WantO.st w l) (fun _ _ _ _ w => w) (fun _ _ _ w => w) fun ds env1 F1 H1 vs l g1 r w => ?_
  exact ⟨F1, ds, g1.bs, r, wantO_lift g1 w⟩
section
variable {x : Str} {p pos : Pos} {e : Expr} {es : List Expr} {m : M (List D)} {id T : String} {g : List D → R D}
theorem pl_of {pos : Pos} (h : es.any isStar = false) : (backTo pos (starEach es X.env)).any (·.1) = false := by rw [backTo_any, h]
theorem pd_bi (hc : CallR X (.builtin id) (rVs W B E g)) (hg : Gl X x) (hm : X.mg x = none) (hv : bootBuiltins x = some (.builtin id)) (ha : PA X (e :: es) (tA W B E m)) (hn : x ≠ "__name__") (hdb : (x == ("__debug__" : Str)) = false) (hs : (e :: es).any isStar = false) : PE X (.Call (.Name x p) (e :: es) [] pos) (tD W B E (mBi g m)) := by
  simp only [List.any_cons, Bool.or_eq_false_iff] at hs
  exact PE.imp (pe_callB hc hg hm hv ha hn hdb (starEach_of hs.1) (pl_of hs.2)) fun _ _ _ h => tCB_of h
theorem pd_biT (hc : CallR X (.type T) (rVs W B E g)) (hg : Gl X x) (hm : X.mg x = none) (hv : bootBuiltins x = some (.type T)) (ha : PA X (e :: es) (tA W B E m)) (hn : x ≠ "__name__") (hdb : (x == ("__debug__" : Str)) = false) (hs : (e :: es).any isStar = false) : PE X (.Call (.Name x p) (e :: es) [] pos) (tD W B E (mBi g m)) := by
  simp only [List.any_cons, Bool.or_eq_false_iff] at hs
  exact PE.imp (pe_callTy hc hg hm hv ha hn hdb (starEach_of hs.1) (pl_of hs.2)) fun _ _ _ h => tCB_of h
theorem pd_biM (hc : CallR X (.builtin id) (rVs W B E g)) (hg : Gl X x) (hm : X.mg x = some (.builtin id)) (ha : PA X (e :: es) (tA W B E m)) (hdb : (x == ("__debug__" : Str)) = false) (hs : (e :: es).any isStar = false) : PE X (.Call (.Name x p) (e :: es) [] pos) (tD W B E (mBi g m)) := by
  simp only [List.any_cons, Bool.or_eq_false_iff] at hs
  exact PE.imp (pe_callBfun hc hg hm ha hdb (starEach_of hs.1) (pl_of hs.2)) fun _ _ _ h => tCB_of h
theorem po_bi (hc : CallR X (.builtin id) (rVsO W B E g)) (hg : Gl X x) (hm : X.mg x = none) (hv : bootBuiltins x = some (.builtin id)) (ha : PA X (e :: es) (tA W B E m)) (hn : x ≠ "__name__") (hdb : (x == ("__debug__" : Str)) = false) (hs : (e :: es).any isStar = false) : PE X (.Call (.Name x p) (e :: es) [] pos) (tO W B E (mBi g m)) := by
  simp only [List.any_cons, Bool.or_eq_false_iff] at hs
  exact PE.imp (pe_callB hc hg hm hv ha hn hdb (starEach_of hs.1) (pl_of hs.2)) fun _ _ _ h => tCB_ofO h
theorem po_biT (hc : CallR X (.type T) (rVsO W B E g)) (hg : Gl X x) (hm : X.mg x = none) (hv : bootBuiltins x = some (.type T)) (ha : PA X (e :: es) (tA W B E m)) (hn : x ≠ "__name__") (hdb : (x == ("__debug__" : Str)) = false) (hs : (e :: es).any isStar = false) : PE X (.Call (.Name x p) (e :: es) [] pos) (tO W B E (mBi g m)) := by
  simp only [List.any_cons, Bool.or_eq_false_iff] at hs
  exact PE.imp (pe_callTy hc hg hm hv ha hn hdb (starEach_of hs.1) (pl_of hs.2)) fun _ _ _ h => tCB_ofO h
end
/-! ### the values -/
theorem reps1 {F : Hp} {vs : List V} {d : D} (r : Reps W F vs [d]) : ∃ v, vs = [v] ∧ Rep W F v d := by
  obtain ⟨v, q, rfl, h, h2⟩ := r
  cases h2
  exact ⟨v, rfl, h⟩
theorem reps2 {F : Hp} {vs : List V} {d e : D} (r : Reps W F vs [d, e]) : ∃ v u, vs = [v, u] ∧ Rep W F v d ∧ Rep W F u e := by
  obtain ⟨v, q, rfl, h, h2⟩ := r
  obtain ⟨u, rfl, h3⟩ := reps1 h2
  exact ⟨v, u, rfl, h, h3⟩
/-- a list or a tuple at hand -/
theorem seq_of {K : Frag} {F H : Hp} {v : V} {d : D} {ds : List D} (s : Le F H) (r : Rep W F v d) (e : d = .lst ds) : ∃ p xs, v = .ref p ∧ SqL K H p xs ∧ Reps W F xs ds := by
  subst e
  obtain ⟨p, xs, rfl, h, q⟩ := r
  exact ⟨p, xs, rfl, .inl (.inl (s _ _ h)), q⟩
theorem seqT_of {K : Frag} {F H : Hp} {v : V} {d : D} {ds : List D} (s : Le F H) (r : Rep W F v d) (e : d = .tup ds) : ∃ p xs, v = .ref p ∧ SqT K H p xs ∧ Reps W F xs ds := by
  subst e
  obtain ⟨p, xs, rfl, h, q⟩ := r
  exact ⟨p, xs, rfl, .inl (.inl (s _ _ h)), q⟩
def gLen : List D → R D
  | [.str s] => .ok (.int s.length)
  | [.lst xs] => .ok (.int xs.length)
  | [.tup xs] => .ok (.int xs.length)
  | [.dct ks _] => .ok (.int ks.length)
  | _ => .bad
theorem v_len : CallR X (.builtin "len") (rVs W B E gLen) := by
  intro pins s σ H xs us Q I r ⟨F, ds, bs, rp, o⟩
  unfold gLen at o
  split at o
  · obtain ⟨v, rfl, z, rfl, e, ok⟩ := reps1 rp
    refine call_len pins s σ H _ us Q I r ⟨_, _, rfl, ⟨?_, rfl⟩, ?_⟩
    · rw [len_cps, e]; exact ok.2
    · refine out_flat bs o ?_
      show _ = _
      rw [len_cps, e]
  · obtain ⟨v, rfl, h⟩ := reps1 rp
    obtain ⟨p, ys, rfl, h, q⟩ := seq_of (K := X.K) bs.sub h rfl
    refine call_len pins s σ H _ us Q I r ⟨_, _, rfl, .inl ⟨_, h, rfl⟩, out_flat bs o ?_⟩
    show _ = _
    rw [q.length]
  · obtain ⟨v, rfl, h⟩ := reps1 rp
    obtain ⟨p, ys, rfl, h, q⟩ := seqT_of (K := X.K) bs.sub h rfl
    refine call_len pins s σ H _ us Q I r ⟨_, _, rfl, .inr ⟨_, h, rfl⟩, out_flat bs o ?_⟩
    show _ = _
    rw [q.length]
  · obtain ⟨v, rfl, p, kvs, rfl, h, q, q2⟩ := reps1 rp
    refine L2.call_lenD pins s σ H _ us Q I r ⟨_, _, rfl, bs.sub _ _ h, out_flat bs o ?_⟩
    show _ = _
    rw [← q.length, List.length_map]
  · exact o.elim
def strOf (s : List Nat) : Str := ⟨s.toArray⟩
def gInt : List D → R D
  | [.int i] => .ok (.int i)
  | [.bl b] => .ok (.int (if b then 1 else 0))
  | [.str s] => if s.length ≤ 640 then (match PySem.intText? (strOf s) with
    | some n => .ok (.int n)
    | none => .bad) else .bad
  | _ => .bad
theorem v_int : CallR X (.type "int") (rVs W B E gInt) := by
  intro pins s σ H xs us Q I r ⟨F, ds, bs, rp, o⟩
  unfold gInt at o
  split at o
  · obtain ⟨v, rfl, rfl⟩ := reps1 rp
    exact call_int1 pins s σ H _ us Q I r (.inl ⟨_, rfl, out_flat bs o rfl⟩)
  · obtain ⟨v, rfl, rfl⟩ := reps1 rp
    exact call_int1 pins s σ H _ us Q I r (.inr ⟨_, rfl, out_flat bs o rfl⟩)
  · obtain ⟨v, rfl, z, rfl, e, ok⟩ := reps1 rp
    split at o
    · rename_i hl
      split at o
      · rename_i n hn
        subst e
        rw [show strOf z.cps.toList = z from str_eq] at hn
        exact call_int_str pins s σ H _ us Q I r ⟨_, _, rfl, hn, by rw [len_cps]; exact hl, out_flat bs o rfl⟩
      · exact o.elim
    · exact o.elim
  · exact o.elim
def gAbs : List D → R D
  | [.int i] => .ok (.int (if i < 0 then -i else i))
  | _ => .bad
theorem v_abs : CallR X (.builtin "abs") (rVs W B E gAbs) := by
  intro pins s σ H xs us Q I r ⟨F, ds, bs, rp, o⟩
  unfold gAbs at o
  split at o
  · obtain ⟨v, rfl, rfl⟩ := reps1 rp
    exact call_abs pins s σ H _ us Q I r ⟨_, rfl, out_flat bs o rfl⟩
  · exact o.elim
def gGcd : List D → R D
  | [.int i, .int j] => .ok (.int ((Nat.gcd i.natAbs j.natAbs : Nat) : Int))
  | _ => .bad
theorem v_gcd : CallR X (.builtin "math.gcd") (rVs W B E gGcd) := by
  intro pins s σ H xs us Q I r ⟨F, ds, bs, rp, o⟩
  unfold gGcd at o
  split at o
  · obtain ⟨v, u, rfl, rfl, rfl⟩ := reps2 rp
    exact cr_gcd pins s σ H _ us Q I r ⟨_, _, rfl, out_flat bs o rfl⟩
  · exact o.elim
/-! ### lists made of sequences -/
theorem outO_new {F H : Hp} {d : D} {o : HO} {p : Addr} {Q : VK} (bs : PStep W B.A B.F B.H F H) (h : OutO W B E F H (.ok d) Q) (n : H p = none) (r : Own W F (upd H p o) p d) : Q (.ref p) (upd H p o) := by
  have nf : F p = none := by
    cases e : F p with
    | none => rfl
    | some z => rw [bs.sub _ _ e] at n; cases n
  exact h F (upd H p o) p (PStep.al bs.sub bs.tabs n) n nf r
def gList : List D → R D
  | [.lst xs] => .ok (.lst xs)
  | [.tup xs] => .ok (.lst xs)
  | _ => .bad
theorem v_list : CallR X (.type "list") (rVsO W B E gList) := by
  intro pins s σ H xs us Q I r ⟨F, ds, bs, rp, o⟩
  unfold gList at o
  split at o
  · obtain ⟨v, rfl, h⟩ := reps1 rp
    obtain ⟨p, ys, rfl, h, q⟩ := seq_of (K := X.K) bs.sub h rfl
    exact call_list_of pins s σ H _ us Q I r ⟨p, ys, rfl, .inl h, fun l n => outO_new bs o n ⟨ys, upd_same, q⟩⟩
  · obtain ⟨v, rfl, h⟩ := reps1 rp
    obtain ⟨p, ys, rfl, h, q⟩ := seqT_of (K := X.K) bs.sub h rfl
    exact call_list_of pins s σ H _ us Q I r ⟨p, ys, rfl, .inr h, fun l n => outO_new bs o n ⟨ys, upd_same, q⟩⟩
  · exact o.elim
def gTuple : List D → R D
  | [.lst xs] => .ok (.tup xs)
  | [.tup xs] => .ok (.tup xs)
  | _ => .bad
theorem v_tuple : CallR X (.type "tuple") (rVs W B E gTuple) := by
  intro pins s σ H xs us Q I r ⟨F, ds, bs, rp, o⟩
  unfold gTuple at o
  split at o
  · obtain ⟨v, rfl, h⟩ := reps1 rp
    obtain ⟨p, ys, rfl, h, q⟩ := seq_of (K := X.K) bs.sub h rfl
    exact call_tuple_of pins s σ H _ us Q I r ⟨p, ys, rfl, .inl ⟨h, fun l n => out_new bs o n ⟨l, ys, rfl, upd_same, q.le (le_fz bs n)⟩⟩⟩
  · obtain ⟨v, rfl, h⟩ := reps1 rp
    obtain ⟨p, ys, rfl, h', q⟩ := seqT_of (K := X.K) bs.sub h rfl
    exact call_tuple_of pins s σ H _ us Q I r ⟨p, ys, rfl, .inr ⟨h', out_flat bs o h⟩⟩
  · exact o.elim
/-! ### all, any, sum, max, min -/
def bls : List D → Option (List Bool)
  | [] => some []
  | .bl b :: r => (bls r).map (b :: ·)
  | _ => none
theorem bls_of {F : Hp} : ∀ {ds : List D} {vs : List V} {bs : List Bool}, Reps W F vs ds → bls ds = some bs → vs = bs.map V.bl
  | [], vs, bs, r, e => by cases e; cases r; rfl
  | d :: ds, vs, bs, r, e => by
    obtain ⟨v, q, rfl, h, h2⟩ := r
    cases d with
    | bl b =>
      cases e' : bls ds with
      | none => simp [bls, e'] at e
      | some bs' =>
        simp [bls, e'] at e
        subst e
        cases h
        rw [bls_of h2 e']; rfl
    | _ => simp [bls] at e
def nums : List D → Option (List Int)
  | [] => some []
  | .int i :: r => (nums r).map (i :: ·)
  | _ => none
theorem nums_of {F : Hp} : ∀ {ds : List D} {vs : List V} {ns : List Int}, Reps W F vs ds → nums ds = some ns → vs = ns.map V.int
  | [], vs, bs, r, e => by cases e; cases r; rfl
  | d :: ds, vs, bs, r, e => by
    obtain ⟨v, q, rfl, h, h2⟩ := r
    cases d with
    | int b =>
      cases e' : nums ds with
      | none => simp [nums, e'] at e
      | some bs' =>
        simp [nums, e'] at e
        subst e
        cases h
        rw [nums_of h2 e']; rfl
    | _ => simp [nums] at e
theorem reps_ints {F : Hp} : ∀ ns : List Int, Reps W F (ns.map V.int) (ns.map D.int)
  | [] => .nil
  | n :: ns => .cons rfl (reps_ints ns)
def gAll : List D → R D
  | [.lst xs] => (match bls xs with
    | some bs => .ok (.bl (bs.all id))
    | none => .bad)
  | _ => .bad
def gAny : List D → R D
  | [.lst xs] => (match bls xs with
    | some bs => .ok (.bl (bs.any id))
    | none => .bad)
  | _ => .bad
def gSum : List D → R D
  | [.lst xs] => (match nums xs with
    | some ns => .ok (.int ns.sum)
    | none => .bad)
  | _ => .bad
theorem v_all (hc : X.calm = true) : CallR X (.builtin "all") (rVs W B E gAll) := by
  intro pins s σ H xs us Q I r ⟨F, ds, bs, rp, o⟩
  unfold gAll at o
  split at o
  · obtain ⟨v, rfl, h⟩ := reps1 rp
    obtain ⟨p, ys, rfl, h, q⟩ := seq_of (K := X.K) bs.sub h rfl
    split at o
    · rename_i bl hb
      have := bls_of q hb
      subst this
      exact cr_all hc pins s σ H _ us Q I r ⟨p, _, rfl, h, out_flat bs o rfl⟩
    · exact o.elim
  · exact o.elim
theorem v_any (hc : X.calm = true) : CallR X (.builtin "any") (rVs W B E gAny) := by
  intro pins s σ H xs us Q I r ⟨F, ds, bs, rp, o⟩
  unfold gAny at o
  split at o
  · obtain ⟨v, rfl, h⟩ := reps1 rp
    obtain ⟨p, ys, rfl, h, q⟩ := seq_of (K := X.K) bs.sub h rfl
    split at o
    · rename_i bl hb
      have := bls_of q hb
      subst this
      exact cr_any hc pins s σ H _ us Q I r ⟨p, _, rfl, h, out_flat bs o rfl⟩
    · exact o.elim
  · exact o.elim
theorem v_sum (hc : X.calm = true) : CallR X (.builtin "sum") (rVs W B E gSum) := by
  intro pins s σ H xs us Q I r ⟨F, ds, bs, rp, o⟩
  unfold gSum at o
  split at o
  · obtain ⟨v, rfl, h⟩ := reps1 rp
    obtain ⟨p, ys, rfl, h, q⟩ := seq_of (K := X.K) bs.sub h rfl
    split at o
    · rename_i bl hb
      have := nums_of q hb
      subst this
      exact cr_sum hc pins s σ H _ us Q I r ⟨p, _, rfl, h, out_flat bs o rfl⟩
    · exact o.elim
  · exact o.elim
def maxL : List Int → Option Int
  | [] => none
  | x :: xs => some (xs.foldl max x)
def minL : List Int → Option Int
  | [] => none
  | x :: xs => some (xs.foldl min x)
theorem foldl_max : ∀ (xs : List Int) (x : Int), xs.foldl max x ∈ x :: xs ∧ ∀ y ∈ x :: xs, y ≤ xs.foldl max x
  | [], x => ⟨by simp, by simp⟩
  | a :: xs, x => by
    obtain ⟨h1, h2⟩ := foldl_max xs (max x a)
    refine ⟨?_, fun y hy => ?_⟩
    · simp only [List.foldl_cons]
      rcases List.mem_cons.mp h1 with e | e
      · rw [e]
        rcases Int.le_total x a with l | l
        · rw [Int.max_eq_right l]; simp
        · rw [Int.max_eq_left l]; simp
      · simp [e]
    · simp only [List.foldl_cons]
      have hm : max x a ≤ xs.foldl max (max x a) := h2 _ (by simp)
      rcases List.mem_cons.mp hy with rfl | hy
      · have := Int.le_max_left y a; omega
      · rcases List.mem_cons.mp hy with rfl | hy
        · have := Int.le_max_right x y; omega
        · exact h2 y (by simp [hy])
theorem foldl_min : ∀ (xs : List Int) (x : Int), xs.foldl min x ∈ x :: xs ∧ ∀ y ∈ x :: xs, xs.foldl min x ≤ y
  | [], x => ⟨by simp, by simp⟩
  | a :: xs, x => by
    obtain ⟨h1, h2⟩ := foldl_min xs (min x a)
    refine ⟨?_, fun y hy => ?_⟩
    · simp only [List.foldl_cons]
      rcases List.mem_cons.mp h1 with e | e
      · rw [e]
        rcases Int.le_total x a with l | l
        · rw [Int.min_eq_left l]; simp
        · rw [Int.min_eq_right l]; simp
      · simp [e]
    · simp only [List.foldl_cons]
      have hm : xs.foldl min (min x a) ≤ min x a := h2 _ (by simp)
      rcases List.mem_cons.mp hy with rfl | hy
      · have := Int.min_le_left y a; omega
      · rcases List.mem_cons.mp hy with rfl | hy
        · have := Int.min_le_right x y; omega
        · exact h2 y (by simp [hy])
def gMax : List D → R D
  | [.int i, .int j] => .ok (.int (if j > i then j else i))
  | [.lst xs] => (match nums xs with
    | some ns => (match maxL ns with
      | some m => .ok (.int m)
      | none => .bad)
    | none => .bad)
  | _ => .bad
def gMin : List D → R D
  | [.int i, .int j] => .ok (.int (if j < i then j else i))
  | [.lst xs] => (match nums xs with
    | some ns => (match minL ns with
      | some m => .ok (.int m)
      | none => .bad)
    | none => .bad)
  | _ => .bad
theorem v_max (hc : X.calm = true) : CallR X (.builtin "max") (rVs W B E gMax) := by
  intro pins s σ H xs us Q I r ⟨F, ds, bs, rp, o⟩
  unfold gMax at o
  split at o
  · obtain ⟨v, u, rfl, rfl, rfl⟩ := reps2 rp
    exact call_max2 hc pins s σ H _ us Q I r ⟨_, _, rfl, out_flat bs o rfl⟩
  · obtain ⟨v, rfl, h⟩ := reps1 rp
    obtain ⟨p, ys, rfl, h, q⟩ := seq_of (K := X.K) bs.sub h rfl
    split at o
    · rename_i ns hb
      have := nums_of q hb
      subst this
      split at o
      · rename_i m hm
        cases ns with
        | nil => cases hm
        | cons n ns =>
          cases hm
          refine cr_max hc pins s σ H _ us Q I r ⟨p, _, rfl, h, by simp, fun m' h1 h2 => ?_⟩
          obtain ⟨g1, g2⟩ := foldl_max ns n
          have e : m' = ns.foldl max n := Int.le_antisymm (g2 _ h1) (h2 _ g1)
          rw [e]
          exact out_flat bs o rfl
      · exact o.elim
    · exact o.elim
  · exact o.elim
theorem v_min (hc : X.calm = true) : CallR X (.builtin "min") (rVs W B E gMin) := by
  intro pins s σ H xs us Q I r ⟨F, ds, bs, rp, o⟩
  unfold gMin at o
  split at o
  · obtain ⟨v, u, rfl, rfl, rfl⟩ := reps2 rp
    exact call_min2 hc pins s σ H _ us Q I r ⟨_, _, rfl, out_flat bs o rfl⟩
  · obtain ⟨v, rfl, h⟩ := reps1 rp
    obtain ⟨p, ys, rfl, h, q⟩ := seq_of (K := X.K) bs.sub h rfl
    split at o
    · rename_i ns hb
      have := nums_of q hb
      subst this
      split at o
      · rename_i m hm
        cases ns with
        | nil => cases hm
        | cons n ns =>
          cases hm
          refine cr_min hc pins s σ H _ us Q I r ⟨p, _, rfl, h, by simp, fun m' h1 h2 => ?_⟩
          obtain ⟨g1, g2⟩ := foldl_min ns n
          have e : m' = ns.foldl min n := Int.le_antisymm (h2 _ g1) (g2 _ h1)
          rw [e]
          exact out_flat bs o rfl
      · exact o.elim
    · exact o.elim
  · exact o.elim
/-! ### isinstance -/
inductive Ty where
  | bi (s : String) | ow (c : Nat)
  deriving DecidableEq
def tyD : D → Option Ty
  | .non => some (.bi "NoneType")
  | .bl _ => some (.bi "bool")
  | .int _ => some (.bi "int")
  | .str _ => some (.bi "str")
  | .lst _ => some (.bi "list")
  | .tup _ => some (.bi "tuple")
  | .dct _ _ => some (.bi "dict")
  | .ins c _ _ => some (.ow c)
  | .exc c _ _ => some (.ow c)
  | _ => none
def tyV (W : Wd) : Ty → Value
  | .bi s => .type s
  | .ow c => .ref (W.cl c)
def lookY (l : List (Ty × Bool)) (t : Ty) : Option Bool := l.lookup t
theorem lookY_mem {l : List (Ty × Bool)} {t : Ty} {b : Bool} (h : lookY l t = some b) : (t, b) ∈ l := by
  unfold lookY at h
  induction l with
  | nil => cases h
  | cons p l ih =>
    obtain ⟨a, c⟩ := p
    simp only [List.lookup] at h
    split at h
    · rename_i e
      have : t = a := by simpa using e
      cases h; subst this; simp
    · exact List.mem_cons_of_mem _ (ih h)
def isiD (l : List (Ty × Bool)) (d : D) : R D := match tyD d with
  | some t => (match lookY l t with
    | some b => .ok (.bl b)
    | none => .bad)
  | none => .bad
theorem tyR_of {K : Frag} {F H : Hp} {v : V} {d : D} {t : Ty} {P : Value → Prop} (hK : K = W.K) (s : Le F H) (r : Rep W F v d) (e : tyD d = some t) (ne : ∀ c ns ds, d ≠ .exc c ns ds) (h : P (tyV W t)) : rTy K v H P := by
  cases d with
  | non => cases r; cases e; exact h
  | bl b => cases r; cases e; exact h
  | int i => cases r; cases e; exact h
  | str z => obtain ⟨y, rfl, _⟩ := r; cases e; exact h
  | lst xs => obtain ⟨p, vs, rfl, g, _⟩ := r; cases e; unfold rTy; simp only [s _ _ g]; exact h
  | tup xs => obtain ⟨p, vs, rfl, g, _⟩ := r; cases e; unfold rTy; simp only [s _ _ g]; exact h
  | dct ks xs => obtain ⟨p, vs, rfl, g, _⟩ := r; cases e; unfold rTy; simp only [s _ _ g]; exact h
  | ins c' ns ds =>
    obtain ⟨p, dx, fvs, rfl, g, ci, _⟩ := r
    cases e
    unfold rTy
    simp only [s _ _ g]
    exact ⟨by rw [hK]; exact ci.1, h⟩
  | exc c' ns ds => exact absurd rfl (ne _ _ _)
  | fn i => cases e
  | slc xs => cases e
/-- isinstance(e, C) -/
theorem pd_isi {e c : Expr} {f : M D} {cv : V} {u : Value} {l : List (Ty × Bool)} {p pos : Pos} (hK : X.K = W.K) (hg : Gl X "isinstance") (hm : X.mg "isinstance" = none) (he : PE X e (tD W B E f)) (hc : PE X c (tC cv)) (hcv : Wp.cv cv = some u) (hl : ∀ q ∈ l, kitOne W.K (tyV W q.1) u = some q.2) (hs : ([e, c] : List Expr).any isStar = false) :
    PE X (.Call (.Name "isinstance" p) [e, c] [] pos) (tD W B E (m1 (isiD l) f)) := by
  simp only [List.any_cons, Bool.or_eq_false_iff] at hs
  refine PE.imp (pe_callB (r := fun xs H Q => Wp.rIsiU X.K xs H Q ∨ Wp.rIsK X.K xs H Q) (CallR.or (Wp.cIsi rfl) Wp.call_isK) hg hm rfl (pa_cons he (pa_cons hc pa_nil (starEach_of hs.2.1)) (starEach_of hs.1)) (by decide) (by decide) (starEach_of hs.1) (pl_of (by simpa using hs.2))) fun σ H Q h => ?_
  obtain ⟨F, env, ag, h⟩ := h
  refine want_bind ag h fun d env1 F1 H1 v l g1 r w => ?_
  show Wp.rIsiU X.K [v, cv] H1 Q ∨ Wp.rIsK X.K [v, cv] H1 Q
  have o := want_lift g1 w
  unfold isiD at o
  split at o
  · rename_i t ht
    split at o
    · rename_i b hb
      have hk := hl _ (lookY_mem hb)
      by_cases hx : ∃ c ns ds, d = .exc c ns ds
      · obtain ⟨c, ns, ds, rfl⟩ := hx
        right
        cases ht
        obtain ⟨a, dd, fvs, rfl, h1, h2, xi, h3, h4⟩ := r
        refine ⟨a, W.cl c, dd, fvs, cv, u, b, rfl, by rw [hK]; exact xi.2.1, g1.sub _ _ h1, g1.sub _ _ h2, fun z hz => ?_, by rw [hK]; exact hk, out_flat g1.bs o rfl⟩
        unfold Wp.cv at hcv
        split at hcv
        · cases hcv; exact hz
        · cases hcv; exact hz
        · cases hcv
      · left
        simp only [Wp.rIsiU]
        refine tyR_of hK g1.sub r ht (fun c ns ds e => hx ⟨c, ns, ds, e⟩) ?_
        exact ⟨u, b, hcv, by rw [hK]; exact hk, out_flat g1.bs o rfl⟩
    · exact o.elim
  · exact o.elim
end
end Dl

set_option maxHeartbeats 4000000
/-! DLK: subscripts, slices, what a slot's own list gives and takes, methods of texts and sequences. -/
namespace Dl
open PySem PySem.W L2 PyProof.Rows
section
variable {X : Cx} {W : Wd} {B : Bs} {E : XK} {a b e o : Expr} {f f1 f2 f3 : M D} {pos apos p p2 : Pos} {x : Str} {ob : Bool}
/-! ### x[i] -/
def ixD : D → D → R D
  | .lst xs, .int i => R.ofO (atI xs i)
  | .tup xs, .int i => R.ofO (atI xs i)
  | .str s, .int i => R.ofO ((atI s i).map fun c => .str [c])
  | _, _ => .bad
theorem atI_of {F : Hp} {ds : List D} {vs : List V} {i : Int} {d : D} (r : Reps W F vs ds) (h : atI ds i = some d) : ∃ v, atI vs i = some v ∧ Rep W F v d := by
  unfold atI at h ⊢
  rw [r.length]
  cases e : ixN ds.length i with
  | none => rw [e] at h; cases h
  | some j =>
    rw [e] at h
    exact r.get' (i := j) h
theorem atI_mem {α : Type} {xs : List α} {i : Int} {c : α} (h : atI xs i = some c) : c ∈ xs := by
  unfold atI at h
  cases e : ixN xs.length i with
  | none => rw [e] at h; cases h
  | some j => rw [e] at h; exact List.mem_of_getElem? h
theorem okS1 {c : Nat} {s : List Nat} (h : okS s) (m : c ∈ s) : okS [c] := ⟨fun z hz => by rw [List.mem_singleton.mp hz]; exact h.1 _ m, by rw [sizeLine_eq]; simp⟩
theorem v_ix : IxR X (rV2 W B E ixD) := by
  intro value slice pins s σ H x y v u Q I rx ry h hs
  obtain ⟨F, d, e, bs, r1, r2, o⟩ := h
  unfold ixD at o
  split at o
  · obtain ⟨p, xs, rfl, h, q⟩ := seq_of (K := X.K) bs.sub r1 rfl
    cases r2
    cases hd : atI _ _ with
    | none => rw [hd] at o; exact o.elim
    | some d =>
      rw [hd] at o
      obtain ⟨z, hz, rz⟩ := atI_of q hd
      exact ix_list value slice pins s σ H _ _ v u Q I rx ry ⟨_, _, _, _, rfl, rfl, h, hz, out_flat bs o rz⟩ hs
  · obtain ⟨p, xs, rfl, h, q⟩ := seqT_of (K := X.K) bs.sub r1 rfl
    cases r2
    cases hd : atI _ _ with
    | none => rw [hd] at o; exact o.elim
    | some d =>
      rw [hd] at o
      obtain ⟨z, hz, rz⟩ := atI_of q hd
      exact ix_tup value slice pins s σ H _ _ v u Q I rx ry ⟨_, _, _, _, rfl, rfl, h, hz, out_flat bs o rz⟩ hs
  · obtain ⟨z, rfl, hz, ok⟩ := r1
    cases r2
    subst hz
    cases hd : atI z.cps.toList _ with
    | none => rw [hd] at o; exact o.elim
    | some c =>
      rw [hd] at o
      exact ix_str value slice pins s σ H _ _ v u Q I rx ry ⟨_, _, _, rfl, rfl, by rw [len_cps]; exact ok.2, hd, out_flat bs o ⟨_, rfl, rfl, okS1 ok (atI_mem hd)⟩⟩ hs
  · exact o.elim
theorem pd_ix {g : D → D → R D} (hr : IxR X (rV2 W B E g)) (ha : PE X a (tD W B E f1)) (hb : PE X b (tD W B E f2)) (hs : PlainIx b) : PE X (.Subscript a b pos) (tD W B E (m2 g f1 f2)) := PE.imp (pe_ix hr ha hb hs) fun _ _ _ h => t2_of h
/-! ### x[lo:hi] -/
def cutL {α : Type} (xs : List α) (lo hi : Option Int) : List α := (xs.drop (HT.sIx xs.length 0 lo)).take (HT.sIx xs.length xs.length hi - HT.sIx xs.length 0 lo)
theorem cutL_mem {α : Type} {xs : List α} {lo hi : Option Int} {c : α} (h : c ∈ cutL xs lo hi) : c ∈ xs := List.mem_of_mem_drop (List.mem_of_mem_take h)
theorem cutL_len {α : Type} (xs : List α) (lo hi : Option Int) : (cutL xs lo hi).length ≤ xs.length := by
  unfold cutL
  rw [List.length_take, List.length_drop]
  omega
theorem Reps.cut {F : Hp} {vs : List V} {ds : List D} (r : Reps W F vs ds) (lo hi : Option Int) : Reps W F (cutV vs lo hi) (cutL ds lo hi) := by
  unfold cutV cutL
  rw [r.length]
  exact (r.drop _).take _
theorem cutL_all {α : Type} {xs : List α} {lo hi : Option Int} (h : HT.sIx xs.length 0 lo = 0 ∧ HT.sIx xs.length xs.length hi = xs.length) : cutL xs lo hi = xs := by
  unfold cutL
  rw [h.1, h.2]
  simp
def slD (d : D) (lo hi : Option Int) : R D := match d with
  | .lst xs => .ok (.lst (cutL xs lo hi))
  | .tup xs => .ok (.tup (cutL xs lo hi))
  | .str s => .ok (.str (cutL s lo hi))
  | .slc xs => .ok (.lst (cutL xs lo hi))
  | _ => .bad
def rSl (W : Wd) (B : Bs) (E : XK) (g : D → Option Int → Option Int → R D) : V → Option Int → Option Int → Hp → VK → Prop := fun x lo hi H Q => ∃ F d, PStep W B.A B.F B.H F H ∧ Rep W F x d ∧ Out W B E F H (g d lo hi) Q
theorem v_sl (hK : X.K = W.K) : SlR X (rSl W B E slD) := by
  intro pins s σ H x v vl vu lo hi sl Q I rx hs pl pu h
  obtain ⟨F, d, bs, r, o⟩ := h
  unfold slD at o
  split at o
  · obtain ⟨p, xs, rfl, h, q⟩ := seq_of (K := X.K) bs.sub r rfl
    exact sl_list pins s σ H _ v vl vu lo hi sl Q I rx hs pl pu ⟨p, xs, rfl, h, fun l n => out_new bs o n ⟨l, _, rfl, upd_same, (q.cut lo hi).le (le_fz bs n)⟩⟩
  · obtain ⟨p, xs, rfl, h, q⟩ := seqT_of (K := X.K) bs.sub r rfl
    refine sl_tupA pins s σ H _ v vl vu lo hi sl Q I rx hs pl pu ⟨p, xs, rfl, h, fun w => ?_, fun w l n => out_new bs o n ⟨l, _, rfl, upd_same, (q.cut lo hi).le (le_fz bs n)⟩⟩
    rw [q.length] at w
    rw [cutL_all w] at o
    exact out_flat bs o r
  · obtain ⟨z, rfl, hz, ok⟩ := r
    refine sl_str pins s σ H _ v vl vu lo hi sl Q I rx hs pl pu ⟨z, rfl, by rw [len_cps, hz]; exact ok.2, out_flat bs o ⟨_, rfl, ?_, ?_⟩⟩
    · unfold cutS cutL
      rw [← hz, len_cps]
    · exact ⟨fun c hc => ok.1 c (cutL_mem hc), Nat.le_trans (cutL_len _ _ _) ok.2⟩
  · obtain ⟨p, vs, rfl, h, q⟩ := r
    have h' : SqL X.K H p vs := by
      rw [hK]
      rcases h with (h | ⟨o, h⟩) | h
      · exact .inl (.inl (bs.sub _ _ h))
      · exact .inl (.inr ⟨o, bs.sub _ _ h⟩)
      · exact .inr h
    exact sl_list pins s σ H _ v vl vu lo hi sl Q I rx hs pl pu ⟨p, vs, rfl, h', fun l n => out_new bs o n ⟨l, _, rfl, upd_same, (q.cut lo hi).le (le_fz bs n)⟩⟩
  · exact o.elim
/-- a bound of a slice -/
def WantP (W : Wd) (B : Bs) (E : XK) (F H : Hp) (env : Ev) (σ : L2.St) (Q : Option Int → Hp → Prop) : RE (Option Int) → Prop
  | .ok (b, env') => ∀ F' H', Stp σ F H env F' H' env' → Ag W B F' H' σ env' → Q b H'
  | .exc x => Xk W B.A B.F B.H E x
  | .bad => False
def tP (W : Wd) (B : Bs) (E : XK) (m : M (Option Int)) : L2.TO := fun σ H Q => ∃ F env, Ag W B F H σ env ∧ WantP W B E F H env σ Q (m env)
theorem PO.imp {e : Option Expr} {t t' : L2.TO} (h : PO X e t) (m : ∀ σ H Q, t' σ H Q → t σ H Q) : PO X e t' := ⟨fun pins s σ H Q I w => h.run pins s σ H Q I (m _ _ _ w)⟩
def mNoP : M (Option Int) := M.ret none
def mPart (f : M D) : M (Option Int) := M.bind f fun d => M.lift (match d with
  | .int i => .ok (some i)
  | _ => .bad)
theorem pp_none : PO X none (tP W B E mNoP) := PO.imp po_none fun σ H Q ⟨F, env, g, h⟩ => h F H Stp.refl g
theorem pp_some (h : PE X e (tD W B E f)) : PO X (some e) (tP W B E (mPart f)) := PO.imp (po_some h) fun σ H Q ⟨F, env, g, h⟩ => by
  refine wantE_bind (G := fun F H env r => WantP W B E F H env σ Q r) g h (fun F H env F' H' env' r l w => ?_) (fun _ _ _ _ w => w) (fun _ _ _ w => w) fun d env1 F1 H1 v l g1 r w => ?_
  · cases r with
    | ok q => exact fun F2 H2 l2 g2 => w F2 H2 (l.trans l2) g2
    | exc x => exact w
    | bad => exact w
  · cases d with
    | int i => exact ⟨i, r, w F1 H1 Stp.refl g1⟩
    | _ => exact w.elim
def mSl (g : D → Option Int → Option Int → R D) (f : M D) (l h : M (Option Int)) : M D := M.bind f fun d => M.bind l fun lo => M.bind h fun hi => M.lift (g d lo hi)
theorem wantP_bind {α : Type} {m : M (Option Int)} {k : Option Int → M α} {σ : L2.St} {H F : Hp} {env : Ev} {Q : Option Int → Hp → Prop} {G : Hp → Hp → Ev → RE α → Prop} (g : Ag W B F H σ env) (h : G F H env (M.bind m k env)) (le : ∀ F H env F' H' env' r, Stp σ F H env F' H' env' → G F H env r → G F' H' env' r) (hx : ∀ F H env x, G F H env (.exc x) → Xk W B.A B.F B.H E x) (hb : ∀ F H env, ¬ G F H env .bad)
    (q : ∀ d env1 F1 H1, Stp σ F H env F1 H1 env1 → Ag W B F1 H1 σ env1 → G F1 H1 env1 (k d env1) → Q d H1) : tP W B E m σ H Q := by
  refine ⟨F, env, g, ?_⟩
  unfold M.bind at h
  cases e : m env with
  | ok p =>
    obtain ⟨d, env1⟩ := p
    rw [e] at h
    exact fun F1 H1 l g1 => q d env1 F1 H1 l g1 (le _ _ _ _ _ _ _ l h)
  | exc x => rw [e] at h; exact hx _ _ _ _ h
  | bad => rw [e] at h; exact hb _ _ _ h
theorem pd_sl {g : D → Option Int → Option Int → R D} {lo hi : Option Expr} {ml mh : M (Option Int)} (hr : SlR X (rSl W B E g)) (he : PE X e (tD W B E f)) (hl : PO X lo (tP W B E ml)) (hu : PO X hi (tP W B E mh)) : PE X (.Subscript e (.Slice lo hi none p2) pos) (tD W B E (mSl g f ml mh)) := PE.imp (pe_slice hr he hl hu) fun σ H Q ⟨F, env, ag, h⟩ => by
  refine want_bind ag h fun d env1 F1 H1 v l g1 r w => ?_
  refine wantP_bind (G := fun F H env r => Want W B E F H env σ Q r) g1 w (fun _ _ _ _ _ _ _ l w => Want.st w l) (fun _ _ _ _ w => w) (fun _ _ _ w => w) fun i env2 F2 H2 l2 g2 w2 => ?_
  refine wantP_bind (G := fun F H env r => Want W B E F H env σ Q r) g2 w2 (fun _ _ _ _ _ _ _ l w => Want.st w l) (fun _ _ _ _ w => w) (fun _ _ _ w => w) fun j env3 F3 H3 l3 g3 w3 => ?_
  exact ⟨F3, d, g3.bs, (r.le l2.le).le l3.le, want_lift g3 w3⟩
/-! ### a slot's own list -/
theorem ownd_bind {α : Type} {i : Nat} {k : Unit → M α} {σ : L2.St} {H F : Hp} {env : Ev} {G : RE α → Prop} (g : Ag W B F H σ env) (h : G (M.bind (mOwnd i) k env)) (hb : ¬ G .bad) : ∃ a, σ[i]? = some (some (.ref a)) ∧ G (k () env) := by
  unfold M.bind mOwnd at h
  have key : ∀ d, ownAt env i = some d → ∃ a, σ[i]? = some (some (.ref a)) := fun d e => by
    obtain ⟨a, ea, _⟩ := own_at g e
    exact ⟨a, ea⟩
  cases e : env[i]? with
  | none => rw [e] at h; exact (hb h).elim
  | some s =>
    rw [e] at h
    cases s with
    | no => exact (hb h).elim
    | pu d => exact (hb h).elim
    | ow d =>
      obtain ⟨a, ea⟩ := key d (by unfold ownAt; rw [e])
      exact ⟨a, ea, h⟩
    | fu => exact (hb h).elim
    | pa k d =>
      obtain ⟨a, ea⟩ := key d (by unfold ownAt; rw [e])
      exact ⟨a, ea, h⟩
/-- name[i], the slot owns the list -/
def mIxO (i : Nat) (f : M D) : M D := M.bind (mOwnd i) fun _ => M.bind f fun d env => match ownAt env i, d with
  | some (.lst xs), .int k => (match atI xs k with
    | some r => .ok (r, env)
    | none => .bad)
  | _, _ => .bad
theorem pd_ixO {i : Nat} (hN : X.N[i]? = some x) (hv : Vis X.env.scope x) (hd : (x == ("__debug__" : Str)) = false) (hcd : (x == ("__classdict__" : Str)) = false) (hb : PE X b (tD W B E f)) (hs : PlainIx b) : PE X (.Subscript (.Name x p) b pos) (tD W B E (mIxO i f)) := by
  refine PE.imp (pe_ix ix_list (pe_var hN hv hd hcd) hb hs) fun σ H Q ⟨F, env, ag, h⟩ => ?_
  obtain ⟨a, ea, h⟩ := ownd_bind (G := Want W B E F H env σ Q) ag h (fun z => z)
  refine ⟨_, ea, ?_⟩
  refine want_bind ag h fun d env1 F1 H1 v l g1 r w => ?_
  split at w
  · rename_i xs k e
    obtain ⟨a', ea', fa, ow, _⟩ := own_at g1 e
    rw [ea] at ea'
    cases ea'
    obtain ⟨vs, ha, rs⟩ := ow
    split at w
    · rename_i z hz
      obtain ⟨u, hu, ru⟩ := atI_of rs hz
      cases r
      exact ⟨_, _, _, _, rfl, rfl, .inl (.inl ha), hu, w F1 H1 u Stp.refl g1 ru⟩
    · exact w.elim
  · exact w.elim
/-- name[i] = e -/
def sSetI (i : Nat) (fi f : M D) : MS := fun env => (f env).bind fun q => ((M.bind (mOwnd i) fun _ => fi) q.2).bind fun r => match ownAt r.2 i, r.1 with
  | some (.lst xs), .int k => (match ixN xs.length k with
    | some j => .ok (.nx, setAt r.2 i (.lst (xs.set j q.1)))
    | none => .bad)
  | _, _ => .bad
theorem pds_setI {i : Nat} {ex ix : Expr} {fi : M D} {spos : Pos} (hN : X.N[i]? = some x) (hv : Vis X.env.scope x) (hd : (x == ("__debug__" : Str)) = false) (hcd : (x == ("__classdict__" : Str)) = false) (he : PE X ex (tD W B E f)) (hi : PE X ix (tD W B E fi))
    (ha : ∀ v, assign (.Subscript (.Name x p) ix spos) X.env v = (do
      let ov ← holding [v] (eval (.Name x p) X.env)
      let iv ← holding [v, ov] (eval ix X.env)
      standAt spos
      holding [v, ov, iv] (setItem ov iv v)
      release [v, ov, iv] [])) (hs : swapsWithSole [.Subscript (.Name x p) ix spos] ex pos.line X.env = pure false) (hw : swappedStores [.Subscript (.Name x p) ix spos] ex X.env = pure none)
    (h1 : (assignEach [.Subscript (.Name x p) ix spos] X.env).map (·.2) = [assign (.Subscript (.Name x p) ix spos) X.env]) :
    PS X (.Assign [.Subscript (.Name x p) ix spos] ex pos) (tS W B E ob (sSetI i fi f)) :=
  PS.imp (ps_asg he (pg_sub (pe_var hN hv hd hcd) hi set_list ha) hs hw h1) fun Z σ H ⟨F, env, ag, h⟩ => by
    unfold sSetI at h
    refine ⟨F, env, ag, ?_⟩
    cases q : f env with
    | bad => rw [q] at h; exact h.elim
    | exc x => rw [q] at h; exact h
    | ok q1 =>
      obtain ⟨d, env1⟩ := q1
      rw [q] at h
      intro F1 H1 v l g1 r
      simp only [R.bind] at h
      cases q2 : (M.bind (mOwnd i) fun _ => fi) env1 with
      | bad => rw [q2] at h; exact h.elim
      | exc x =>
        rw [q2] at h
        have h' : Want W B E F1 H1 env1 σ (fun _ _ => False) ((M.bind (mOwnd i) fun _ => fi) env1) := by rw [q2]; exact h
        obtain ⟨a, ea, w⟩ := ownd_bind (G := Want W B E F1 H1 env1 σ (fun _ _ => False)) g1 h' (fun z => z)
        refine ⟨_, ea, F1, env1, g1, ?_⟩
        have : fi env1 = .exc x := by
          cases e : fi env1 with
          | exc y =>
            have q3 : (M.bind (mOwnd i) fun _ => fi) env1 = .exc y := by
              unfold M.bind mOwnd at q2 ⊢
              cases e2 : env1[i]? with
              | none => rw [e2] at q2; cases q2
              | some s => rw [e2] at q2; cases s <;> first | (cases q2; done) | exact e
            rw [q2] at q3; cases q3; rfl
          | ok y =>
            exfalso
            unfold M.bind mOwnd at q2
            cases e2 : env1[i]? with
            | none => rw [e2] at q2; cases q2
            | some s => rw [e2] at q2; cases s <;> first | (cases q2; done) | (simp only [R.bind] at q2; rw [e] at q2; cases q2)
          | bad =>
            exfalso
            unfold M.bind mOwnd at q2
            cases e2 : env1[i]? with
            | none => rw [e2] at q2; cases q2
            | some s => rw [e2] at q2; cases s <;> first | (cases q2; done) | (simp only [R.bind] at q2; rw [e] at q2; cases q2)
        rw [this]
        exact h
      | ok q3 =>
        obtain ⟨k, env2⟩ := q3
        rw [q2] at h
        have q4 : fi env1 = .ok (k, env2) ∧ ∃ a, σ[i]? = some (some (.ref a)) := by
          obtain ⟨a, ea, w⟩ := ownd_bind (G := fun r => r = .ok (k, env2)) g1 q2 (fun z => nomatch z)
          exact ⟨w, a, ea⟩
        obtain ⟨q4, a, ea⟩ := q4
        refine ⟨_, ea, F1, env1, g1, ?_⟩
        rw [q4]
        intro F2 H2 kv l2 g2 rk
        simp only [R.bind] at h
        split at h
        · rename_i xs kk e
          obtain ⟨a', ea', fa, ow, _⟩ := own_at g2 e
          rw [ea] at ea'
          cases ea'
          obtain ⟨vs, hv', rs⟩ := ow
          split at h
          · rename_i j hj
            cases rk
            refine ⟨_, _, _, j, rfl, rfl, hv', by rw [rs.length]; exact hj, ?_⟩
            exact h F2 _ σ (l.le.trans l2.le) (g2.write (o := .lst (vs.set j v)) (d' := .lst (xs.set j d)) e ea (fun _ z => nomatch z) ⟨_, upd_same, rs.set (r.le l2.le)⟩).1
          · exact h.elim
        · exact h.elim
/-- name.append(e) -/
def mApd (i : Nat) (f : M D) : M D := M.bind (mOwnd i) fun _ => M.bind f fun d env => match ownAt env i with
  | some (.lst xs) => if xs.length < sizeLine then .ok (.non, setAt env i (.lst (xs ++ [d]))) else .bad
  | _ => .bad
theorem own_lst {i : Nat} {F H : Hp} {σ : L2.St} {env : Ev} {a : Addr} {xs : List D} (g : Ag W B F H σ env) (ea : σ[i]? = some (some (.ref a))) (e : ownAt env i = some (.lst xs)) : ∃ vs, H a = some (.lst vs) ∧ Reps W F vs xs := by
  obtain ⟨a', ea', fa, ow, _⟩ := own_at g e
  rw [ea] at ea'
  cases ea'
  exact ow
/-- before a method of the slot's list: it is a list -/
theorem own_ty {i : Nat} {σ : L2.St} {F H : Hp} {env : Ev} {a : Addr} {xs : List D} (g : Ag W B F H σ env) (ea : σ[i]? = some (some (.ref a))) (e : ownAt env i = some (.lst xs)) : L2.tyV X.K "list" (.ref a) H := by
  obtain ⟨vs, h, _⟩ := own_lst g ea e
  exact .inl ⟨rfl, vs, .inl (.inl h)⟩
theorem few_of {pos : Pos} {es : List Expr} {n : Nat} (hs : es.any isStar = false) (hn : es.length < 30) : ((backTo pos (starEach es X.env)).all (fun x => !x.1) && (backToKw pos (keywordEach [] X.env)).all (fun x => x.1.isSome) && decide (es.length + ([] : List Keyword).length + (if ([] : List Keyword).isEmpty then 0 else 1) < 30)) = true := by
  have h1 : (backTo pos (starEach es X.env)).all (fun x => !x.1) = true := by
    have := backTo_any (pos := pos) (env := X.env) es
    rw [hs] at this
    rw [List.any_eq_false] at this
    rw [List.all_eq_true]
    intro x hx
    have := this x hx
    simpa using this
  rw [h1, kw_all]
  simp only [List.all_nil, Bool.true_and, Bool.and_true]
  simp [hn]
/-- one step at the slot's list by a method with one argument -/
def mMt1 (i : Nat) (g : List D → D → Option (D × List D)) (f : M D) : M D := M.bind (mOwnd i) fun _ => fun env => match ownAt env i with
  | some (.lst _) => (M.bind f fun d env => match ownAt env i with
    | some (.lst xs) => (match g xs d with
      | some (r, ys) => .ok (r, setAt env i (.lst ys))
      | none => .bad)
    | _ => .bad) env
  | _ => .bad
def gApd (xs : List D) (d : D) : Option (D × List D) := if xs.length < sizeLine then some (.non, xs ++ [d]) else none
theorem mt1 {i : Nat} {g : List D → D → Option (D × List D)} {σ : L2.St} {H F : Hp} {env : Ev} {Q : VK} {rr : V → List V → Hp → VK → Prop} (ag : Ag W B F H σ env) (h : Want W B E F H env σ Q (mMt1 i g f env))
    (rule : ∀ (H : Hp) (F : Hp) (a : Addr) (vs : List V) (xs : List D) (v : V) (d r : D) (ys : List D) (Q : VK), Le F H → H a = some (.lst vs) → Reps W F vs xs → Rep W F v d → g xs d = some (r, ys) → (∀ u ws, Reps W F ws ys → Rep W F u r → Q u (upd H a (.lst ws))) → rr (.ref a) [v] H Q) :
    tBM X.K "list" rr (tVar i) (tCons (tD W B E f) tNil) σ H Q := by
  obtain ⟨a, ea, h⟩ := ownd_bind (G := Want W B E F H env σ Q) ag h (fun z => z)
  refine ⟨_, ea, ?_⟩
  simp only at h
  split at h
  · rename_i xs e
    refine ⟨own_ty ag ea e, ?_⟩
    refine want_bind ag h fun d env1 F1 H1 v l g1 r w => ?_
    split at w
    · rename_i xs1 e1
      split at w
      · rename_i r1 ys hg
        obtain ⟨vs, hv, rs⟩ := own_lst g1 ea e1
        refine rule H1 F1 a vs xs1 v d r1 ys Q g1.sub hv rs r hg fun u ws rw' ru => ?_
        obtain ⟨g2, l2⟩ := g1.write (o := .lst ws) (d' := .lst ys) e1 ea (fun _ z => nomatch z) ⟨_, upd_same, rw'⟩
        exact w F1 _ u l2 g2 ru
      · exact w.elim
    · exact w.elim
  · exact h.elim
theorem pd_apd {i : Nat} (hN : X.N[i]? = some x) (hv : Vis X.env.scope x) (hd : (x == ("__debug__" : Str)) = false) (hcd : (x == ("__classdict__" : Str)) = false) (he : PE X e (tD W B E f)) (hs : isStar e = false) (hl : (apos.endLine == pos.line) = true) :
    PE X (.Call (.Attribute (.Name x p) "append" apos) [e] [] pos) (tD W B E (mMt1 i gApd f)) :=
  PE.imp (pe_bm (r := rAppend) F.plainAttrs_list F.slot_list_append F.type_list_append mt_append (pe_var hN hv hd hcd) (pa_cons he pa_nil (starEach_of hs)) (attributeBase_of rfl) (few_of (n := 0) (by simp [hs]) (by simp)) hl (starEach_of hs) rfl) fun σ H Q ⟨F, env, ag, h⟩ =>
    mt1 ag h fun H F a vs xs v d r ys Q s hv rs rv hg q => by
      unfold gApd at hg
      split at hg
      · rename_i hl
        cases hg
        exact ⟨a, vs, v, rfl, rfl, hv, by rw [rs.length]; exact hl, q .non (vs ++ [v]) (rs.append (.cons rv .nil)) rfl⟩
      · cases hg
end
end Dl

set_option maxHeartbeats 4000000
/-! DLL: targets, what a loop walks, for, while. -/
namespace Dl
open PySem PySem.W L2 PyProof.Rows
section
variable {X : Cx} {W : Wd} {B : Bs} {E : XK} {a b c e tg : Expr} {es : List Expr} {f f1 f2 f3 : M D} {pos apos p p2 : Pos} {x : Str} {ob : Bool}
/-! ### targets: vs are the slots that may be set -/
abbrev MG := D → Ev → R Ev
def gD (W : Wd) (B : Bs) (vs : List Nat) (t : MG) : TG := fun v σ H Q => ∃ F env d, Ag W B F H σ env ∧ Rep W F v d ∧ (match t d env with
  | .ok env' => ∀ σ', Ag W B F H σ' env' → (∀ i, i ∉ vs → σ'[i]? = σ[i]?) → Q σ' H
  | _ => False)
abbrev MGs := List D → Ev → R Ev
def gDs (W : Wd) (B : Bs) (vs : List Nat) (t : MGs) : TGs := fun us σ H Q => ∃ F env ds, Ag W B F H σ env ∧ Reps W F us ds ∧ (match t ds env with
  | .ok env' => ∀ σ', Ag W B F H σ' env' → (∀ i, i ∉ vs → σ'[i]? = σ[i]?) → Q σ' H
  | _ => False)
theorem PG.imp {t t' : TG} (h : PG X tg t) (m : ∀ v σ H Q, t' v σ H Q → t v σ H Q) : PG X tg t' := ⟨fun pins s σ H v u Q I r w => h.run pins s σ H v u Q I r (m _ _ _ _ w)⟩
theorem PGs.imp {t t' : TGs} (h : PGs X es t) (m : ∀ v σ H Q, t' v σ H Q → t v σ H Q) : PGs X es t' := ⟨fun pins s σ H v u Q I r w => h.run pins s σ H v u Q I r (m _ _ _ _ w)⟩
/-- a target: no exception, no slot comes to own something -/
structure GOk (t : MG) : Prop where
  ne : ∀ d env y, t d env ≠ .exc y
  ow : ∀ d env env', t d env = .ok env' → env'.length = env.length ∧ ∀ i : Nat, isOwn env'[i]? → isOwn env[i]?
structure GsOk (t : MGs) : Prop where
  ne : ∀ d env y, t d env ≠ .exc y
  ow : ∀ d env env', t d env = .ok env' → env'.length = env.length ∧ ∀ i : Nat, isOwn env'[i]? → isOwn env[i]?
def tgN (i : Nat) : MG := fun d env => .ok (env.set i (.pu d))
theorem pdg_name {i : Nat} {vs : List Nat} (hN : X.N.Nodup) (hi : X.N[i]? = some x) (hx : Loc X.env.scope x) (hf : X.fn x = true ∨ X.env.scope.names.lookup x = some .local) (hv : i ∈ vs) : PG X (.Name x pos) (gD W B vs (tgN i)) :=
  PG.imp (pg_name hN hi hx hf) fun v σ H Q ⟨F, env, d, g, r, h⟩ => h _ (g.setP r) fun j hj => by
    have : i ≠ j := fun z => hj (z ▸ hv)
    rw [List.getElem?_set_ne this]
theorem gok_n (i : Nat) : GOk (tgN i) where
  ne := fun d env y h => nomatch h
  ow := fun d env env' h => by
    cases h
    refine ⟨List.length_set .., fun j o => ?_⟩
    by_cases q : i = j
    · subst q
      by_cases hl : i < env.length
      · rw [List.getElem?_set_self hl] at o; exact o.elim
      · rw [List.getElem?_eq_none (by rw [List.length_set]; omega)] at o; exact o.elim
    · rw [List.getElem?_set_ne q] at o; exact o
def tgsNil : MGs := fun ds env => match ds with
  | [] => .ok env
  | _ => .bad
def tgsCons (t : MG) (u : MGs) : MGs := fun ds env => match ds with
  | d :: r => (t d env).bind fun env1 => u r env1
  | [] => .bad
theorem gok_nil : GsOk tgsNil where
  ne := fun d env y h => by cases d <;> cases h
  ow := fun d env env' h => by cases d <;> cases h; exact ⟨rfl, fun _ o => o⟩
theorem gok_cons {t : MG} {u : MGs} (h1 : GOk t) (h2 : GsOk u) : GsOk (tgsCons t u) where
  ne := fun d env y h => by
    cases d with
    | nil => cases h
    | cons d r =>
      simp only [tgsCons] at h
      cases e : t d env with
      | ok env1 => rw [e] at h; exact h2.ne _ _ _ h
      | exc x => exact h1.ne _ _ _ e
      | bad => rw [e] at h; cases h
  ow := fun d env env' h => by
    cases d with
    | nil => cases h
    | cons d r =>
      simp only [tgsCons] at h
      cases e : t d env with
      | ok env1 =>
        rw [e] at h
        obtain ⟨a1, a2⟩ := h1.ow _ _ _ e
        obtain ⟨b1, b2⟩ := h2.ow _ _ _ h
        exact ⟨b1.trans a1, fun i o => a2 i (b2 i o)⟩
      | exc x => rw [e] at h; cases h
      | bad => rw [e] at h; cases h
theorem pdgs_nil {vs : List Nat} : PGs X [] (gDs W B vs tgsNil) := PGs.imp pgs_nil fun us σ H Q ⟨F, env, ds, g, r, h⟩ => by
  cases ds with
  | nil => cases r; exact ⟨rfl, h σ g fun _ _ => rfl⟩
  | cons d ds => exact h.elim
theorem pdgs_cons {vs : List Nat} {t : MG} {u : MGs} (h1 : PG X a (gD W B vs t)) (h2 : PGs X es (gDs W B vs u)) (hs : (assignEach (a :: es) X.env).map (·.2) = assign a X.env :: (assignEach es X.env).map (·.2)) : PGs X (a :: es) (gDs W B vs (tgsCons t u)) :=
  PGs.imp (pgs_cons h1 h2 hs) fun us σ H Q ⟨F, env, ds, g, r, h⟩ => by
    cases ds with
    | nil => exact h.elim
    | cons d ds =>
      obtain ⟨v, q, rfl, r1, r2⟩ := r
      refine ⟨v, q, rfl, F, env, d, g, r1, ?_⟩
      simp only [tgsCons] at h
      cases e : t d env with
      | ok env1 =>
        rw [e] at h
        simp only [R.bind] at h
        intro σ' g1 st
        refine ⟨F, env1, ds, g1, r2, ?_⟩
        cases e2 : u ds env1 with
        | ok env2 =>
          rw [e2] at h
          exact fun σ2 g2 st2 => h σ2 g2 fun i hi => (st2 i hi).trans (st i hi)
        | exc x => rw [e2] at h; exact h
        | bad => rw [e2] at h; exact h
      | exc x => rw [e] at h; exact h
      | bad => rw [e] at h; exact h
def tgTup (n : Nat) (t : MGs) : MG := fun d env => match d with
  | .lst ds => if ds.length = n then t ds env else .bad
  | .tup ds => if ds.length = n then t ds env else .bad
  | _ => .bad
theorem gok_tup {n : Nat} {t : MGs} (h : GsOk t) : GOk (tgTup n t) where
  ne := fun d env y e => by
    unfold tgTup at e
    split at e
    · split at e
      · exact h.ne _ _ _ e
      · cases e
    · split at e
      · exact h.ne _ _ _ e
      · cases e
    · cases e
  ow := fun d env env' e => by
    unfold tgTup at e
    split at e
    · split at e
      · exact h.ow _ _ _ e
      · cases e
    · split at e
      · exact h.ow _ _ _ e
      · cases e
    · cases e
theorem pdg_tup {vs : List Nat} {t : MGs} {k n : Nat} (hc : X.calm = true) (h : PGs X es (gDs W B vs t)) (hn : (assignEach es X.env).length = n) (hst : (assignEach es X.env).findIdx? (·.1) = none) : PG X (.Tuple es k pos) (gD W B vs (tgTup n t)) :=
  PG.imp (Wp.pg_unpU hc h hn hst) fun v σ H Q ⟨F, env, d, g, r, h⟩ => by
    have key : ∀ ds, (if ds.length = n then t ds env else .bad) = tgTup n t d env → (∃ p us, v = .ref p ∧ (H p = some (.tup us) ∨ H p = some (.lst us)) ∧ Reps W F us ds) → Wp.rUnp n v H fun xs => gDs W B vs t xs σ H Q := fun ds e ⟨p, us, hv, hp, q⟩ => by
      subst hv
      rw [← e] at h
      by_cases hl : ds.length = n
      · rw [if_pos hl] at h
        unfold Wp.rUnp
        rcases hp with hp | hp
        · simp only [hp]
          exact ⟨by rw [q.length]; exact hl, F, env, _, g, q, h⟩
        · simp only [hp]
          exact ⟨by rw [q.length]; exact hl, F, env, _, g, q, h⟩
      · rw [if_neg hl] at h; exact h.elim
    cases d with
    | lst ds => obtain ⟨p, us, hv, hp, q⟩ := r; exact key ds rfl ⟨p, us, hv, .inr (g.sub _ _ hp), q⟩
    | tup ds => obtain ⟨p, us, hv, hp, q⟩ := r; exact key ds rfl ⟨p, us, hv, .inl (g.sub _ _ hp), q⟩
    | _ => exact h.elim
/-- target = e -/
def sAsg (t : MG) (f : M D) : MS := fun env => (f env).bind fun q => (t q.1 q.2).bind fun env' => .ok (.nx, env')
theorem pds_asg {vs : List Nat} {t : MG} (he : PE X e (tD W B E f)) (hg : PG X tg (gD W B vs t)) (hs : swapsWithSole [tg] e pos.line X.env = pure false) (hw : swappedStores [tg] e X.env = pure none) (h1 : (assignEach [tg] X.env).map (·.2) = [assign tg X.env]) (hx : GOk t) : PS X (.Assign [tg] e pos) (tS W B E ob (sAsg t f)) :=
  PS.imp (ps_asg he hg hs hw h1) fun Z σ H ⟨F, env, g, h⟩ => by
    refine ⟨F, env, g, ?_⟩
    unfold sAsg at h
    cases q : f env with
    | bad => rw [q] at h; exact h.elim
    | exc x => rw [q] at h; exact h
    | ok q1 =>
      obtain ⟨d, env1⟩ := q1
      rw [q] at h
      intro F1 H1 v l g1 r
      refine ⟨F1, env1, d, g1, r, ?_⟩
      simp only [R.bind] at h
      cases q2 : t d env1 with
      | ok env2 => rw [q2] at h; exact fun σ' g2 _ => h F1 H1 σ' l.le g2
      | exc y => exact absurd q2 (hx.ne _ _ _)
      | bad => rw [q2] at h; exact h
/-! ### what a loop walks -/
/-- the iterator gives these -/
def JOk (W : Wd) (J : It) (F : Hp) (ds : List D) : Prop := ∀ F2 H2, Le F F2 → Le F2 H2 → Tb W F2 H2 → (∀ (i : Nat) d, ds[i]? = some d → J.go i H2 ∧ ∀ x H', J.yld i H2 x H' → ∃ F3, PStep W [] F2 H2 F3 H' ∧ Rep W F3 x d) ∧ J.stop ds.length H2
def WantI (W : Wd) (B : Bs) (E : XK) (F H : Hp) (env : Ev) (σ : L2.St) (R : It → Hp → Prop) : RE (List D) → Prop
  | .ok (ds, env') => ∀ F' H' J, Stp σ F H env F' H' env' → Ag W B F' H' σ env' → JOk W J F' ds → R J H'
  | .exc x => Xk W B.A B.F B.H E x
  | .bad => False
def tI (W : Wd) (B : Bs) (E : XK) (m : M (List D)) : TI := fun σ H R => ∃ F env, Ag W B F H σ env ∧ WantI W B E F H env σ R (m env)
theorem WantI.st {F H F1 H1 : Hp} {env env1 : Ev} {σ : L2.St} {Q : It → Hp → Prop} {r : RE (List D)} (h : WantI W B E F H env σ Q r) (l : Stp σ F H env F1 H1 env1) : WantI W B E F1 H1 env1 σ Q r := by
  cases r with
  | ok q => exact fun F2 H2 J l2 g2 j => h F2 H2 J (l.trans l2) g2 j
  | exc x => exact h
  | bad => exact h
theorem PI.imp {t t' : TI} (h : PI X tg e t) (m : ∀ σ H Q, t' σ H Q → t σ H Q) : PI X tg e t' := ⟨fun pins s σ H Q I w => h.run pins s σ H Q I (m _ _ _ w)⟩
/-- a list, a tuple, a text -/
def iSeq (K : Frag) (te : TE) : TI := fun σ H R => te σ H fun x H1 => (∃ a xs, x = .ref a ∧ SqL K H1 a xs ∧ R (Itl K a) H1) ∨ (∃ a xs, x = .ref a ∧ SqT K H1 a xs ∧ R (Itt K a) H1) ∨ ∃ z, x = .str z ∧ R (Its z) H1
theorem pi_seq {te : TE} (he : PE X e te) : PI X tg e (iSeq X.K te) := by
  refine ⟨fun pins s σ H R I h => ?_⟩
  refine thn (he.run pins s σ H _ I h) fun v s1 ⟨y, H1, I1, r1, q⟩ => ?_
  rcases q with ⟨a, xs, rfl, hq, q⟩ | ⟨a, xs, rfl, hq, q⟩ | ⟨z, rfl, q⟩
  · obtain rfl : v = .ref a := r1
    obtain ⟨its, _, l, _⟩ := I1.list hq
    exact wpAny_pyIter_list l.isList (pi_one (tk := s1.toks) I1 _ (turn_list a _) ⟨_, Heap.get?_push_size _ rfl, rfl, rfl⟩ q)
  · obtain rfl : v = .ref a := r1
    obtain ⟨its, _, l, _⟩ := I1.tuple hq
    exact wpAny_pyIter_tuple (items := its.toArray) l (pi_one (tk := s1.toks) I1 _ (turn_tuple a _) ⟨_, Heap.get?_push_size _ rfl, rfl, rfl⟩ q)
  · obtain ⟨t, rfl⟩ := r1
    cases ha : z.cps.all (· < 128)
    · exact wpAny_pyIter_wide ha (pi_one (tk := s1.toks) I1 _ (turn_str _ z t "str_iterator" (.inr rfl)) ⟨_, Heap.get?_push_size _ rfl, rfl, rfl⟩ q)
    · exact wpAny_pyIter_ascii ha (pi_one (tk := s1.toks) I1 _ (turn_str _ z t "str_ascii_iterator" (.inl rfl)) ⟨_, Heap.get?_push_size _ rfl, rfl, rfl⟩ q)
theorem jok_list {K : Frag} {F : Hp} {a : Addr} {vs : List V} {ds : List D} (ha : F a = some (.lst vs)) (r : Reps W F vs ds) : JOk W (Itl K a) F ds := by
  intro F2 H2 l1 l2 t
  have h2 := l2 _ _ (l1 _ _ ha)
  refine ⟨fun i d hd => ?_, vs, .inl (.inl h2), by rw [r.length]; exact Nat.le_refl _⟩
  obtain ⟨v, hv, rv⟩ := r.get' hd
  refine ⟨⟨vs, v, .inl (.inl h2), hv⟩, fun x H' ⟨e, y⟩ => ?_⟩
  subst e
  have hx := y vs (.inl (.inl h2))
  rw [hv] at hx
  cases hx
  exact ⟨F2, PStep.refl l2 t, rv.le l1⟩
theorem jok_tup {K : Frag} {F : Hp} {a : Addr} {vs : List V} {ds : List D} (ha : F a = some (.tup vs)) (r : Reps W F vs ds) : JOk W (Itt K a) F ds := by
  intro F2 H2 l1 l2 t
  have h2 := l2 _ _ (l1 _ _ ha)
  refine ⟨fun i d hd => ?_, vs, .inl (.inl h2), by rw [r.length]; exact Nat.le_refl _⟩
  obtain ⟨v, hv, rv⟩ := r.get' hd
  refine ⟨⟨vs, v, .inl (.inl h2), hv⟩, fun x H' ⟨e, y⟩ => ?_⟩
  subst e
  have hx := y vs (.inl (.inl h2))
  rw [hv] at hx
  cases hx
  exact ⟨F2, PStep.refl l2 t, rv.le l1⟩
theorem jok_str {F : Hp} {z : Str} (ok : okS z.cps.toList) : JOk W (Its z) F (z.cps.toList.map fun c => .str [c]) := by
  intro F2 H2 l1 l2 t
  refine ⟨fun i d hd => ?_, by show z.cps.size ≤ _; simp⟩
  rw [List.getElem?_map] at hd
  cases hc : z.cps.toList[i]? with
  | none => rw [hc] at hd; cases hd
  | some c =>
    rw [hc] at hd
    cases hd
    have hl := get_lt hc
    refine ⟨by show i < z.cps.size; simpa using hl, fun x H' ⟨e, c', hc', ex⟩ => ?_⟩
    subst e ex
    have : c' = c := by
      have : z.cps.toList[i]? = some c' := by rw [Array.getElem?_toList]; exact hc'
      rw [hc] at this; cases this; rfl
    subst this
    exact ⟨F2, PStep.refl l2 t, _, rfl, rfl, okS1 ok (List.mem_of_getElem? hc)⟩
theorem jok_rng {F : Hp} {lo : Int} {n : Nat} : JOk W (Itr lo n) F ((List.range n).map fun i : Nat => .int (lo + i)) := by
  intro F2 H2 l1 l2 t
  refine ⟨fun i d hd => ?_, by show n ≤ _; simp⟩
  rw [List.getElem?_map] at hd
  cases hc : (List.range n)[i]? with
  | none => rw [hc] at hd; cases hd
  | some c =>
    rw [hc] at hd
    cases hd
    have hl : i < n := by have := get_lt hc; simpa using this
    have : c = i := by rw [List.getElem?_range hl] at hc; cases hc; rfl
    subst this
    exact ⟨hl, fun x H' ⟨e, ex⟩ => ⟨F2, by subst e; exact PStep.refl l2 t, by subst ex; rfl⟩⟩
def itemsOf : D → R (List D)
  | .lst xs => .ok xs
  | .tup xs => .ok xs
  | .str s => .ok (s.map fun c => .str [c])
  | _ => .bad
def mIt (f : M D) : M (List D) := M.bind f fun d => M.lift (itemsOf d)
theorem jseq_of {K : Frag} {F H : Hp} {v : V} {d : D} {ds : List D} {R : It → Hp → Prop} (s : Le F H) (r : Rep W F v d) (e : itemsOf d = .ok ds) (h : ∀ J, JOk W J F ds → R J H) : (∃ a xs, v = .ref a ∧ SqL K H a xs ∧ R (Itl K a) H) ∨ (∃ a xs, v = .ref a ∧ SqT K H a xs ∧ R (Itt K a) H) ∨ ∃ z, v = .str z ∧ R (Its z) H := by
  unfold itemsOf at e
  split at e
  · cases e
    obtain ⟨p, xs, rfl, hp, q⟩ := r
    exact .inl ⟨p, xs, rfl, .inl (.inl (s _ _ hp)), h _ (jok_list hp q)⟩
  · cases e
    obtain ⟨p, xs, rfl, hp, q⟩ := r
    exact .inr (.inl ⟨p, xs, rfl, .inl (.inl (s _ _ hp)), h _ (jok_tup hp q)⟩)
  · cases e
    obtain ⟨z, rfl, hz, ok⟩ := r
    subst hz
    exact .inr (.inr ⟨z, rfl, h _ (jok_str ok)⟩)
  · cases e
theorem pdi_seq (he : PE X e (tD W B E f)) : PI X tg e (tI W B E (mIt f)) := PI.imp (pi_seq he) fun σ H Q ⟨F, env, ag, h⟩ => by
  refine wantE_bind (G := fun F H env r => WantI W B E F H env σ Q r) ag h (fun _ _ _ _ _ _ _ l w => WantI.st w l) (fun _ _ _ _ w => w) (fun _ _ _ w => w) fun d env1 F1 H1 v l g1 r w => ?_
  cases e : itemsOf d with
  | ok ds =>
    simp only [M.lift, R.map, e] at w
    exact jseq_of g1.sub r e fun J j => w F1 H1 J Stp.refl g1 j
  | exc x => unfold itemsOf at e; split at e <;> cases e
  | bad => simp only [M.lift, R.map, e] at w; exact w.elim
def bnd62 (i : Int) : Bool := decide (-(2 ^ 62) ≤ i) && decide (i < 2 ^ 62)
theorem jok_rng0 {F : Hp} {n : Nat} : JOk W (Itr 0 n) F ((List.range n).map fun i : Nat => .int i) := by
  have := jok_rng (W := W) (F := F) (lo := 0) (n := n)
  simpa using this
def rng1 : List D → R (List D)
  | [.int j] => if bnd62 j then .ok ((List.range j.toNat).map fun i : Nat => .int i) else .bad
  | _ => .bad
def rng2 : List D → R (List D)
  | [.int i, .int j] => if bnd62 i && bnd62 j then .ok ((List.range (j - i).toNat).map fun k : Nat => .int (i + k)) else .bad
  | _ => .bad
def mRng (g : List D → R (List D)) (m : M (List D)) : M (List D) := M.bind m fun ds => M.lift (g ds)
theorem pdi_rng1 {m : M (List D)} (hg : Gl X "range") (hm : X.mg "range" = none) (ha : PA X [a] (tA W B E m)) (hs : isStar a = false) : PI X tg (.Call (.Name "range" p) [a] [] pos) (tI W B E (mRng rng1 m)) := PI.imp (pi_range1 hg hm ha (starEach_of hs)) fun σ H Q ⟨F, env, ag, h⟩ => by
  refine wantA_bind (G := fun F H env r => WantI W B E F H env σ Q r) ag h (fun _ _ _ _ _ _ _ l w => WantI.st w l) (fun _ _ _ _ w => w) (fun _ _ _ w => w) fun ds env1 F1 H1 vs l g1 r w => ?_
  unfold rng1 at w
  split at w
  · obtain ⟨v, rfl, rfl⟩ := reps1 r
    split at w
    · rename_i hb
      simp only [bnd62, Bool.and_eq_true, decide_eq_true_eq] at hb
      exact ⟨_, rfl, hb.1, hb.2, w F1 H1 _ Stp.refl g1 jok_rng0⟩
    · exact w.elim
  · exact w.elim
theorem pdi_rng2 {m : M (List D)} (hg : Gl X "range") (hm : X.mg "range" = none) (ha : PA X [a, b] (tA W B E m)) (hs : isStar a = false) (hs2 : isStar b = false) : PI X tg (.Call (.Name "range" p) [a, b] [] pos) (tI W B E (mRng rng2 m)) := PI.imp (pi_range2 hg hm ha (by rw [starEach_of hs, starEach_of hs2]; rfl) (starEach_of hs2)) fun σ H Q ⟨F, env, ag, h⟩ => by
  refine wantA_bind (G := fun F H env r => WantI W B E F H env σ Q r) ag h (fun _ _ _ _ _ _ _ l w => WantI.st w l) (fun _ _ _ _ w => w) (fun _ _ _ w => w) fun ds env1 F1 H1 vs l g1 r w => ?_
  unfold rng2 at w
  split at w
  · obtain ⟨v, u, rfl, rfl, rfl⟩ := reps2 r
    split at w
    · rename_i hb
      simp only [bnd62, Bool.and_eq_true, decide_eq_true_eq] at hb
      exact ⟨_, _, rfl, ⟨hb.1.1, hb.1.2, hb.2.1, hb.2.2⟩, w F1 H1 _ Stp.refl g1 jok_rng⟩
    · exact w.elim
  · exact w.elim
/-- enumerate(..) of a list -/
def enumD (xs : List D) : List D := (List.range xs.length).zipWith (fun (i : Nat) x => .tup [.int i, x]) xs
def enum1 : List D → R (List D)
  | [.lst xs] => .ok (enumD xs)
  | _ => .bad
theorem jok_enum {K : Frag} {F : Hp} {a : Addr} {vs : List V} {ds : List D} (ha : F a = some (.lst vs)) (r : Reps W F vs ds) : JOk W (Ite K a) F (enumD ds) := by
  intro F2 H2 l1 l2 t
  have h2 := l2 _ _ (l1 _ _ ha)
  refine ⟨fun i d hd => ?_, vs, .inl (.inl h2), by rw [r.length]; simp [enumD]⟩
  have hl : i < ds.length := by have := get_lt hd; simpa [enumD] using this
  obtain ⟨d1, hd1⟩ : ∃ d1, ds[i]? = some d1 := ⟨_, List.getElem?_eq_getElem hl⟩
  have hd2 : d = .tup [.int i, d1] := by
    unfold enumD at hd
    rw [List.getElem?_zipWith, List.getElem?_range hl, hd1] at hd
    cases hd; rfl
  subst hd2
  obtain ⟨v, hv, rv⟩ := r.get' hd1
  refine ⟨⟨vs, v, .inl (.inl h2), hv⟩, fun x H' ⟨T, y, ex, hT, eH, hy⟩ => ?_⟩
  subst ex eH
  have hx := hy vs (.inl (.inl h2))
  rw [hv] at hx
  cases hx
  refine ⟨upd F2 T (.tup [.int (i : Nat), v]), PStep.fz l2 t hT, T, _, rfl, upd_same, .cons rfl (.cons ?_ .nil)⟩
  exact (rv.le l1).le (PStep.fz (o := .tup [.int (i : Nat), v]) l2 t hT).le
theorem pdi_enum {m : M (List D)} {elts : List Expr} {kk : Nat} {tpos : Pos} (hg : Gl X "enumerate") (hm : X.mg "enumerate" = none) (ha : PA X [a] (tA W B E m)) (hs : isStar a = false) : PI X (.Tuple elts kk tpos) (.Call (.Name "enumerate" p) [a] [] pos) (tI W B E (mRng enum1 m)) := PI.imp (pi_enum hg hm ha (starEach_of hs)) fun σ H Q ⟨F, env, ag, h⟩ => by
  refine wantA_bind (G := fun F H env r => WantI W B E F H env σ Q r) ag h (fun _ _ _ _ _ _ _ l w => WantI.st w l) (fun _ _ _ _ w => w) (fun _ _ _ w => w) fun ds env1 F1 H1 vs l g1 r w => ?_
  unfold enum1 at w
  split at w
  · obtain ⟨v, rfl, p, ys, rfl, hp, q⟩ := reps1 r
    exact ⟨p, ys, rfl, .inl (.inl (g1.sub _ _ hp)), w F1 H1 _ Stp.refl g1 (jok_enum hp q)⟩
  · exact w.elim
/-- zip(..) of two lists, of two tuples -/
def zipD (xs ys : List D) : List D := xs.zipWith (fun x y => .tup [x, y]) ys
def zip1 : List D → R (List D)
  | [.lst xs, .lst ys] => .ok (zipD xs ys)
  | [.tup xs, .tup ys] => .ok (zipD xs ys)
  | _ => .bad
theorem zip_get {xs ys : List D} {i : Nat} {d : D} (h : (zipD xs ys)[i]? = some d) : ∃ x y, xs[i]? = some x ∧ ys[i]? = some y ∧ d = .tup [x, y] := by
  unfold zipD at h
  rw [List.getElem?_zipWith] at h
  split at h
  · cases h; exact ⟨_, _, ‹_›, ‹_›, rfl⟩
  · cases h
theorem jok_zip {K : Frag} {F : Hp} {a b : Addr} {vs us : List V} {ds es : List D} (ha : F a = some (.lst vs)) (r : Reps W F vs ds) (hb : F b = some (.lst us)) (r2 : Reps W F us es) : JOk W (Itz K a b) F (zipD ds es) := by
  intro F2 H2 l1 l2 t
  have h2 := l2 _ _ (l1 _ _ ha)
  have h3 := l2 _ _ (l1 _ _ hb)
  refine ⟨fun i d hd => ?_, vs, us, .inl (.inl h2), .inl (.inl h3), by rw [r.length, r2.length]; simp only [zipD, List.length_zipWith]; omega⟩
  obtain ⟨d1, d2, hd1, hd2, rfl⟩ := zip_get hd
  obtain ⟨v, hv, rv⟩ := r.get' hd1
  obtain ⟨u, hu, ru⟩ := r2.get' hd2
  refine ⟨⟨vs, us, v, u, .inl (.inl h2), .inl (.inl h3), hv, hu⟩, fun x H' ⟨T, y, z, ex, hT, eH, hy, hz⟩ => ?_⟩
  subst ex eH
  have hx := hy vs (.inl (.inl h2))
  have hx' := hz us (.inl (.inl h3))
  rw [hv] at hx
  rw [hu] at hx'
  cases hx; cases hx'
  have p := PStep.fz (W := W) (o := .tup [v, u]) l2 t hT
  exact ⟨upd F2 T (.tup [v, u]), p, T, _, rfl, upd_same, .cons ((rv.le l1).le p.le) (.cons ((ru.le l1).le p.le) .nil)⟩
theorem jok_zipT {K : Frag} {F : Hp} {a b : Addr} {vs us : List V} {ds es : List D} (ha : F a = some (.tup vs)) (r : Reps W F vs ds) (hb : F b = some (.tup us)) (r2 : Reps W F us es) : JOk W (RZ.ItzT K a b) F (zipD ds es) := by
  intro F2 H2 l1 l2 t
  have h2 := l2 _ _ (l1 _ _ ha)
  have h3 := l2 _ _ (l1 _ _ hb)
  refine ⟨fun i d hd => ?_, vs, us, .inl (.inl h2), .inl (.inl h3), by rw [r.length, r2.length]; simp only [zipD, List.length_zipWith]; omega⟩
  obtain ⟨d1, d2, hd1, hd2, rfl⟩ := zip_get hd
  obtain ⟨v, hv, rv⟩ := r.get' hd1
  obtain ⟨u, hu, ru⟩ := r2.get' hd2
  refine ⟨⟨vs, us, v, u, .inl (.inl h2), .inl (.inl h3), hv, hu⟩, fun x H' ⟨T, y, z, ex, hT, eH, hy, hz⟩ => ?_⟩
  subst ex eH
  have hx := hy vs (.inl (.inl h2))
  have hx' := hz us (.inl (.inl h3))
  rw [hv] at hx
  rw [hu] at hx'
  cases hx; cases hx'
  have p := PStep.fz (W := W) (o := .tup [v, u]) l2 t hT
  exact ⟨upd F2 T (.tup [v, u]), p, T, _, rfl, upd_same, .cons ((rv.le l1).le p.le) (.cons ((ru.le l1).le p.le) .nil)⟩
theorem pdi_zip {m : M (List D)} {elts : List Expr} {kk : Nat} {tpos : Pos} (hg : Gl X "zip") (hm : X.mg "zip" = none) (ha : PA X [a, b] (tA W B E m)) (hs : isStar a = false) (hs2 : isStar b = false) : PI X (.Tuple elts kk tpos) (.Call (.Name "zip" p) [a, b] [] pos) (tI W B E (mRng zip1 m)) := PI.imp (RZ.pi_zipA hg hm ha (starEach_of hs) (pl_of (by simp [hs2]))) fun σ H Q ⟨F, env, ag, h⟩ => by
  refine wantA_bind (G := fun F H env r => WantI W B E F H env σ Q r) ag h (fun _ _ _ _ _ _ _ l w => WantI.st w l) (fun _ _ _ _ w => w) (fun _ _ _ w => w) fun ds env1 F1 H1 vs l g1 r w => ?_
  unfold zip1 at w
  split at w
  · obtain ⟨v, u, rfl, ⟨p, ys, rfl, hp, q⟩, p', ys', rfl, hp', q'⟩ := reps2 r
    exact ⟨p, p', ys, ys', rfl, .inl ⟨.inl (.inl (g1.sub _ _ hp)), .inl (.inl (g1.sub _ _ hp')), w F1 H1 _ Stp.refl g1 (jok_zip hp q hp' q')⟩⟩
  · obtain ⟨v, u, rfl, ⟨p, ys, rfl, hp, q⟩, p', ys', rfl, hp', q'⟩ := reps2 r
    exact ⟨p, p', ys, ys', rfl, .inr ⟨.inl (.inl (g1.sub _ _ hp)), .inl (.inl (g1.sub _ _ hp')), w F1 H1 _ Stp.refl g1 (jok_zipT hp q hp' q')⟩⟩
  · exact w.elim
/-! ### for -/
def loopD (t : MG) (m : MS) : List D → MS
  | [], env => .ok (.nx, env)
  | d :: ds, env => (t d env).bind fun env1 => (m env1).bind fun q => match q.1 with
    | .nx => loopD t m ds q.2
    | .ct => loopD t m ds q.2
    | .bk => .ok (.nx, q.2)
    | .rt r => .ok (.rt r, q.2)
def sFor (mi : M (List D)) (t : MG) (m : MS) : MS := fun env => (mi env).bind fun q => loopD t m q.1 q.2
theorem pds_for {vs : List Nat} {mi : M (List D)} {t : MG} {m : MS} {body : List Stmt} (hp : PassesOwn (model X.prog X.w) X.A X.env X.xe) (hc : X.calm = true) (hi : PI X tg e (tI W B E mi)) (hg : PG X tg (gD W B vs t)) (hb : PSs X body (tS W B E ob m)) (hs : ∀ x, foldedSetIterable e X.env x = pure x) (hx : GOk t) :
    PS X (.For tg e body [] pos) (tS W B E ob (sFor mi t m)) := PS.imp (ps_for hp hc hi hg hb hs) fun Z σ H ⟨F, env, ag, h⟩ => by
  refine ⟨F, env, ag, ?_⟩
  unfold sFor at h
  cases q : mi env with
  | bad => rw [q] at h; exact h.elim
  | exc x => rw [q] at h; exact h
  | ok q1 =>
    obtain ⟨ds, env1⟩ := q1
    rw [q] at h
    simp only [R.bind] at h
    intro F1 H1 J l g1 j
    refine ⟨fun i n σ' H' => n = ds.length - i ∧ i ≤ ds.length ∧ ∃ F2 env2, Ag W B F2 H' σ' env2 ∧ Le F1 F2 ∧ WantS W B E ob F2 Z (loopD t m (ds.drop i) env2), ⟨ds.length, by simp, Nat.zero_le _, F1, env1, g1, Le.refl _, h.le l.le⟩, ?_⟩
    rintro i n σ' H' ⟨rfl, hi, F2, env2, g2, l2, w⟩
    obtain ⟨jg, js⟩ := j F2 H' l2 g2.sub g2.tabs
    by_cases hlt : i < ds.length
    · right
      have hd : ds[i]? = some ds[i] := List.getElem?_eq_getElem hlt
      obtain ⟨go, yl⟩ := jg i _ hd
      refine ⟨go, fun σ3 H3 => i + 1 ≤ ds.length ∧ ∃ F2 env2, Ag W B F2 H3 σ3 env2 ∧ Le F1 F2 ∧ WantS W B E ob F2 Z (loopD t m (ds.drop (i + 1)) env2), fun σ3 H3 ⟨a1, a2⟩ => ⟨ds.length - (i + 1), by omega, rfl, a1, a2⟩, fun x H3 y => ?_⟩
      obtain ⟨F3, p3, r3⟩ := yl x H3 y
      rw [List.drop_eq_getElem_cons hlt] at w
      refine ⟨F3, env2, _, g2.step p3, r3, ?_⟩
      simp only [loopD] at w
      cases e1 : t ds[i] env2 with
      | bad => rw [e1] at w; exact w
      | exc y => exact absurd e1 (hx.ne _ _ _)
      | ok env3 =>
        rw [e1] at w
        intro σ4 g4 _
        refine ⟨F3, env3, g4, ?_⟩
        simp only [R.bind] at w
        cases e2 : m env3 with
        | bad => rw [e2] at w; exact w.elim
        | exc y => rw [e2] at w; exact w
        | ok q2 =>
          obtain ⟨fl, env4⟩ := q2
          rw [e2] at w
          simp only at w
          have nx : WantS W B E ob F2 Z (loopD t m (ds.drop (i + 1)) env4) → ∀ F' H' σ', Le F3 F' → Ag W B F' H' σ' env4 → i + 1 ≤ ds.length ∧ ∃ F2 env2, Ag W B F2 H' σ' env2 ∧ Le F1 F2 ∧ WantS W B E ob F2 Z (loopD t m (ds.drop (i + 1)) env2) :=
            fun w F' H' σ' l' g' => ⟨hlt, F', env4, g', l2.trans (p3.le.trans l'), w.le (p3.le.trans l')⟩
          cases fl with
          | nx => exact nx w
          | ct => exact nx w
          | bk => exact fun F' H' σ' l' g' => w F' H' σ' (p3.le.trans l') g'
          | rt d => exact fun F' H' σ' v l' g' r => w F' H' σ' v (p3.le.trans l') g' r
    · left
      have ei : i = ds.length := by omega
      subst ei
      rw [List.drop_length] at w
      exact ⟨js, w F2 H' σ' (Le.refl _) g2⟩
end
end Dl

set_option maxHeartbeats 4000000
/-! DLM: while, comprehensions. -/
namespace Dl
open PySem PySem.W L2 PyProof.Rows
section
variable {X : Cx} {W : Wd} {B : Bs} {E : XK} {a b c e tg : Expr} {es : List Expr} {f f1 f2 f3 : M D} {pos apos p p2 : Pos} {x : Str} {ob : Bool}
/-! ### while -/
def whileD (t : M Bool) (m : MS) : Nat → MS
  | 0, _ => .bad
  | n + 1, env => (t env).bind fun q => if q.1 then ((m q.2).bind fun r => match r.1 with
    | .nx => whileD t m n r.2
    | .ct => whileD t m n r.2
    | .bk => .ok (.nx, r.2)
    | .rt d => .ok (.rt d, r.2)) else .ok (.nx, q.2)
theorem pds_while {t : M Bool} {m : MS} {n : Nat} {body : List Stmt} (hp : PassesOwn (model X.prog X.w) X.A X.env X.xe) (hc : PT X c (tT W B E t)) (hb : PSs X body (tS W B E ob m)) : PS X (.While c body [] pos) (tS W B E ob (whileD t m n)) :=
  PS.imp (ps_while hp hc hb) fun Z σ H ⟨F, env, ag, h⟩ => by
    refine ⟨fun n σ H => ∃ F env, Ag W B F H σ env ∧ WantS W B E ob F Z (whileD t m n env), ⟨n, F, env, ag, h⟩, ?_⟩
    rintro n σ1 H1 ⟨F1, env1, g1, w⟩
    cases n with
    | zero => exact w.elim
    | succ n =>
      refine ⟨F1, env1, g1, ?_⟩
      unfold whileD at w
      cases q : t env1 with
      | bad => rw [q] at w; exact w.elim
      | exc x => rw [q] at w; exact w
      | ok q1 =>
        obtain ⟨b, env2⟩ := q1
        rw [q] at w
        simp only [R.bind] at w
        intro F2 H2 l2 g2
        cases b with
        | false =>
          rw [if_neg (by decide)] at w ⊢
          exact w F2 H2 σ1 l2.le g2
        | true =>
          rw [if_pos rfl] at w ⊢
          refine ⟨fun σ H => ∃ F env, Ag W B F H σ env ∧ WantS W B E ob F Z (whileD t m n env), fun σ' H' h' => ⟨n, Nat.lt_succ_self _, h'⟩, F2, env2, g2, ?_⟩
          cases q2 : m env2 with
          | bad => rw [q2] at w; exact w.elim
          | exc x => rw [q2] at w; exact w
          | ok q3 =>
            obtain ⟨fl, env3⟩ := q3
            rw [q2] at w
            simp only at w
            have nx : WantS W B E ob F1 Z (whileD t m n env3) → ∀ F' H' σ', Le F2 F' → Ag W B F' H' σ' env3 → ∃ F env, Ag W B F H' σ' env ∧ WantS W B E ob F Z (whileD t m n env) := fun w F' H' σ' l' g' => ⟨F', env3, g', w.le (l2.le.trans l')⟩
            cases fl with
            | nx => exact nx w
            | ct => exact nx w
            | bk => exact fun F' H' σ' l' g' => w F' H' σ' (l2.le.trans l') g'
            | rt d => exact fun F' H' σ' v l' g' r => w F' H' σ' v (l2.le.trans l') g' r
/-! ### comprehensions -/
def wipeE (env : Ev) : List Nat → Ev
  | [] => env
  | v :: vs => (wipeE env vs).set v .no
/-- the block's own slots as they were -/
def backE (env env1 : Ev) : List Nat → Ev
  | [] => env1
  | v :: vs => (backE env env1 vs).set v (match env[v]? with
    | some (.pu d) => .pu d
    | _ => .no)
theorem wipeE_len (env : Ev) : ∀ vs, (wipeE env vs).length = env.length
  | [] => rfl
  | v :: vs => by unfold wipeE; rw [List.length_set, wipeE_len env vs]
theorem wipeE_out {env : Ev} {i : Nat} : ∀ {vs : List Nat}, i ∉ vs → (wipeE env vs)[i]? = env[i]?
  | [], _ => rfl
  | v :: vs, h => by
    unfold wipeE
    rw [List.getElem?_set_ne (fun z => h (by simp [z])), wipeE_out (fun z => h (by simp [z]))]
theorem wipeE_in {env : Ev} {i : Nat} (hl : i < env.length) : ∀ {vs : List Nat}, i ∈ vs → (wipeE env vs)[i]? = some .no
  | v :: vs, h => by
    unfold wipeE
    by_cases e : v = i
    · subst e
      rw [List.getElem?_set_self (by rw [wipeE_len]; exact hl)]
    · rw [List.getElem?_set_ne e]
      rcases List.mem_cons.mp h with z | z
      · exact absurd z.symm e
      · exact wipeE_in hl z
theorem wipe_out {σ : L2.St} {i : Nat} : ∀ {vs : List Nat}, i ∉ vs → (wipe σ vs)[i]? = σ[i]?
  | [], _ => rfl
  | v :: vs, h => by
    unfold wipe
    rw [List.getElem?_set_ne (fun z => h (by simp [z])), wipe_out (fun z => h (by simp [z]))]
theorem wipe_in {σ : L2.St} {i : Nat} (hl : i < σ.length) : ∀ {vs : List Nat}, i ∈ vs → (wipe σ vs)[i]? = some none
  | v :: vs, h => by
    unfold wipe
    by_cases e : v = i
    · subst e
      rw [List.getElem?_set_self (by rw [wipe_length]; exact hl)]
    · rw [List.getElem?_set_ne e]
      rcases List.mem_cons.mp h with z | z
      · exact absurd z.symm e
      · exact wipe_in hl z
theorem backE_len (env env1 : Ev) : ∀ vs, (backE env env1 vs).length = env1.length
  | [] => rfl
  | v :: vs => by unfold backE; rw [List.length_set, backE_len env env1 vs]
theorem backE_out {env env1 : Ev} {i : Nat} : ∀ {vs : List Nat}, i ∉ vs → (backE env env1 vs)[i]? = env1[i]?
  | [], _ => rfl
  | v :: vs, h => by
    unfold backE
    rw [List.getElem?_set_ne (fun z => h (by simp [z])), backE_out (fun z => h (by simp [z]))]
theorem backE_in {env env1 : Ev} {i : Nat} (hl : i < env1.length) : ∀ {vs : List Nat}, i ∈ vs → (backE env env1 vs)[i]? = some (match env[i]? with
    | some (.pu d) => .pu d
    | _ => .no)
  | v :: vs, h => by
    unfold backE
    by_cases e : v = i
    · subst e
      rw [List.getElem?_set_self (by rw [backE_len]; exact hl)]
    · rw [List.getElem?_set_ne e]
      rcases List.mem_cons.mp h with z | z
      · exact absurd z.symm e
      · exact backE_in hl z
theorem Ag.wipe {F H : Hp} {σ : L2.St} {env : Ev} (g : Ag W B F H σ env) (vs : List Nat) : Ag W B F H (L2.wipe σ vs) (wipeE env vs) where
  len := by rw [wipe_length, wipeE_len]; exact g.len
  sl := fun i v s h1 h2 => by
    by_cases hi : i ∈ vs
    · have hl : i < env.length := by have := get_lt h2; rw [wipeE_len] at this; exact this
      rw [wipeE_in hl hi] at h2
      cases h2
      trivial
    · rw [wipe_out hi] at h1
      rw [wipeE_out hi] at h2
      exact g.sl i v s h1 h2
  inj := fun i j hij oi oj => by
    have ni : ∀ i, isOwn (wipeE env vs)[i]? → i ∉ vs := fun i o hi => by
      by_cases hl : i < env.length
      · rw [wipeE_in hl hi] at o; exact o
      · rw [List.getElem?_eq_none (by rw [wipeE_len]; omega)] at o; exact o
    have h1 := ni i oi
    have h2 := ni j oj
    rw [wipeE_out h1] at oi
    rw [wipeE_out h2] at oj
    rw [wipe_out h1, wipe_out h2]
    exact g.inj i j hij oi oj
  bs := g.bs
  fa := g.fa
/-- behind the block: σ as it was, env1 what the block left -/
theorem Ag.back {F0 H0 F H : Hp} {σ σ1 : L2.St} {env env1 : Ev} {vs : List Nat} (g0 : Ag W B F0 H0 σ env) (l : Le F0 F) (g : Ag W B F H σ1 env1) (hσ : L2.wipe σ1 vs = L2.wipe σ vs) : Ag W B F H σ (backE env env1 vs) := by
  have hlen : σ1.length = σ.length := by have := congrArg List.length hσ; rw [wipe_length, wipe_length] at this; exact this
  have out : ∀ i, i ∉ vs → σ1[i]? = σ[i]? := fun i hi => by
    have : (L2.wipe σ1 vs)[i]? = (L2.wipe σ vs)[i]? := by rw [hσ]
    rw [wipe_out hi, wipe_out hi] at this
    exact this
  have hl1 : env1.length = σ.length := by rw [← g.len, hlen]
  refine ⟨by rw [backE_len, hl1], fun i v s h1 h2 => ?_, fun i j hij oi oj => ?_, g.bs, g.fa⟩
  · by_cases hi : i ∈ vs
    · have hl : i < env1.length := by have := get_lt h2; rw [backE_len] at this; exact this
      rw [backE_in hl hi] at h2
      cases h2
      cases e : env[i]? with
      | none => trivial
      | some s =>
        cases s with
        | pu d =>
          obtain ⟨x, ex, rx⟩ := g0.sl i v _ h1 e
          exact ⟨x, ex, rx.le l⟩
        | _ => trivial
    · rw [backE_out hi] at h2
      rw [← out i hi] at h1
      exact g.sl i v s h1 h2
  · have ni : ∀ i, isOwn (backE env env1 vs)[i]? → i ∉ vs := fun i o hi => by
      by_cases hl : i < env1.length
      · rw [backE_in hl hi] at o
        cases e : env[i]? with
        | none => rw [e] at o; exact o
        | some s => rw [e] at o; cases s <;> exact o
      · rw [List.getElem?_eq_none (by rw [backE_len]; omega)] at o; exact o
    have h1 := ni i oi
    have h2 := ni j oj
    rw [backE_out h1] at oi
    rw [backE_out h2] at oj
    rw [← out i h1, ← out j h2]
    exact g.inj i j hij oi oj
/-- the block's turns, what was made so far in acc -/
def lcD (vs : List Nat) (t : MG) (tt : M Bool) (te : M D) : List D → List D → Ev → Option (List D × Ev)
  | [], acc, env => some (acc, env)
  | d :: ds, acc, env => match t d (wipeE env vs) with
    | .ok env1 => (match tt env1 with
      | .ok (true, env2) => (match te env2 with
        | .ok (y, env3) => if acc.length < sizeLine then lcD vs t tt te ds (acc ++ [y]) env3 else none
        | _ => none)
      | .ok (false, env2) => lcD vs t tt te ds acc env2
      | _ => none)
    | _ => none
def mLc (vs : List Nat) (mi : M (List D)) (t : MG) (tt : M Bool) (te : M D) : M D := fun env => (mi env).bind fun q => match lcD vs t tt te q.1 [] q.2 with
  | some r => .ok (.lst r.1, backE q.2 r.2 vs)
  | none => .bad
/-- a list that no slot owns is written -/
theorem Ag.writeN {F H : Hp} {σ : L2.St} {env : Ev} {a : Addr} {vs ws : List V} (g : Ag W B F H σ env) (n0 : B.H a = none) (n : F a = none) (ha : H a = some (.lst vs)) (w : Nw σ env a) : Ag W B F (upd H a (.lst ws)) σ env := by
  have p : PStep W [a] F H F (upd H a (.lst ws)) := {
    le := Le.refl _
    sub := fun b x h => by
      have : b ≠ a := fun z => by rw [z, n] at h; cases h
      rw [upd_ne this]; exact g.sub b x h
    old := fun b x h n t => by rw [upd_ne (by simpa using n)]; exact h
    new := fun _ _ => rfl
    trk := fun b h => by
      by_cases z : b = a
      · rw [z, upd_same]; simp
      · rw [upd_ne z]; exact h
    tabs := by
      refine ⟨?_, g.tabs.nt⟩
      intro q hq
      obtain ⟨ps, h1, h2, h3⟩ := g.tabs.tb q hq
      refine ⟨ps, by rw [upd_ne (fun z => by rw [z, ha] at h1; cases h1)]; exact h1, h2, fun pos cv hc => ?_⟩
      obtain ⟨c, rfl, hcd⟩ := h3 pos cv hc
      refine ⟨c, rfl, ?_⟩
      rw [upd_ne (fun z => by rw [z, ha] at hcd; unfold LamX.CodeO at hcd; cases hcd)]
      exact hcd }
  exact g.stepA p (fun x hx => by rw [List.mem_singleton.mp hx]; exact .inr n0) fun b hb => by rw [List.mem_singleton.mp hb]; exact w
theorem wipe_eq {σ σ4 : L2.St} {vs : List Nat} (hl : σ4.length = σ.length) (h : ∀ i, i ∉ vs → σ4[i]? = σ[i]?) : L2.wipe σ4 vs = L2.wipe σ vs := by
  refine List.ext_getElem? fun i => ?_
  by_cases hi : i ∈ vs
  · by_cases hlt : i < σ.length
    · rw [wipe_in (by omega) hi, wipe_in hlt hi]
    · rw [List.getElem?_eq_none (by rw [wipe_length]; omega), List.getElem?_eq_none (by rw [wipe_length]; omega)]
  · rw [wipe_out hi, wipe_out hi, h i hi]
/-- the state between two turns -/
structure LcT (W : Wd) (B : Bs) (σ : L2.St) (vs : List Nat) (A : Addr) (F1 H1 : Hp) (env1 : Ev) (F2 H2 : Hp) (σ2 : L2.St) (env2 : Ev) (acc : List D) : Prop where
  ag : Ag W B F2 H2 σ2 env2
  ws : L2.wipe σ2 vs = L2.wipe σ vs
  le : Le F1 F2
  fA : F2 A = none
  hA : ∃ us, H2 A = some (.lst us) ∧ Reps W F2 us acc
  fr : ∀ a o, H1 a = some o → Nw σ env1 a → NotT o → H2 a = some o
  nf : ∀ a, H1 a ≠ none → Nw σ env1 a → F2 a = F1 a
  tk : ∀ a, H1 a ≠ none → H2 a ≠ none
  ow : ∀ i : Nat, isOwn env2[i]? → isOwn env1[i]?
theorem LcT.out {σ : L2.St} {vs : List Nat} {A : Addr} {F1 H1 F2 H2 : Hp} {env1 env2 : Ev} {σ2 : L2.St} {acc : List D} (L : LcT W B σ vs A F1 H1 env1 F2 H2 σ2 env2 acc) : ∀ i, i ∉ vs → σ2[i]? = σ[i]? := fun i hi => by
  have : (L2.wipe σ2 vs)[i]? = (L2.wipe σ vs)[i]? := by rw [L.ws]
  rw [wipe_out hi, wipe_out hi] at this
  exact this
/-- a piece of a turn: the slots env3 own no more than env1, none of vs -/
theorem nw_in {σ σ4 : L2.St} {vs : List Nat} {env1 env3 : Ev} {a : Addr} (h : Nw σ env1 a) (ho : ∀ i : Nat, isOwn env3[i]? → i ∉ vs ∧ isOwn env1[i]?) (hσ : ∀ i, i ∉ vs → σ4[i]? = σ[i]?) : Nw σ4 env3 a := fun i o => by
  obtain ⟨h1, h2⟩ := ho i o
  rw [hσ i h1]
  exact h i h2
theorem lc_end {vs : List Nat} {mi : M (List D)} {t : MG} {tt : M Bool} {te : M D} {σ : L2.St} {H F : Hp} {env : Ev} {Q : VK} (hx : GOk t) (ag : Ag W B F H σ env) (h : WantO W B E F H env σ Q (mLc vs mi t tt te env)) : tLc (tI W B E mi) (gD W B vs t) (tT W B (fun _ _ _ => False) tt) (tD W B (fun _ _ _ => False) te) vs σ H Q := by
  refine ⟨F, env, ag, ?_⟩
  unfold mLc at h
  cases q : mi env with
  | bad => rw [q] at h; exact h.elim
  | exc x => rw [q] at h; exact h
  | ok q1 =>
    obtain ⟨ds, env1⟩ := q1
    rw [q] at h
    simp only [R.bind] at h
    cases q2 : lcD vs t tt te ds [] env1 with
    | none => rw [q2] at h; exact h.elim
    | some fin =>
    rw [q2] at h
    simp only at h
    intro F1 H1 J l g1 j A nA
    have nwA : Nw σ env1 A := g1.nw nA
    have fA : F1 A = none := by
      cases z : F1 A with
      | none => rfl
      | some o => rw [g1.sub _ _ z] at nA; cases nA
    have b0 : B.H A = none := g1.free0 nA
    have p0 : PStep W [] F1 H1 F1 (upd H1 A (.lst [])) := PStep.al g1.sub g1.tabs nA
    refine ⟨fun i n H' => n = ds.length - i ∧ i ≤ ds.length ∧ ∃ F2 σ2 env2 acc, LcT W B σ vs A F1 H1 env1 F2 H' σ2 env2 acc ∧ lcD vs t tt te (ds.drop i) acc env2 = some fin, ⟨ds.length, by simp, Nat.zero_le _, F1, σ, env1, [], ?_, q2⟩, ?_⟩
    · exact ⟨g1.step p0, rfl, Le.refl _, fA, ⟨[], upd_same, .nil⟩, fun a o h n nt => p0.old a o h (by simp) nt, fun _ _ _ => rfl, p0.trk, fun _ o => o⟩
    rintro i n H2 ⟨rfl, hi, F2, σ2, env2, acc, L, w⟩
    obtain ⟨jg, js⟩ := j F2 H2 L.le L.ag.sub L.ag.tabs
    by_cases hlt : i < ds.length
    · right
      have hd : ds[i]? = some ds[i] := List.getElem?_eq_getElem hlt
      obtain ⟨go, yl⟩ := jg i _ hd
      refine ⟨go, fun H' => ∃ F2 σ2 env2 acc, LcT W B σ vs A F1 H1 env1 F2 H' σ2 env2 acc ∧ lcD vs t tt te (ds.drop (i + 1)) acc env2 = some fin, fun H' z => ⟨ds.length - (i + 1), by omega, rfl, hlt, z⟩, fun x H3 y => ?_⟩
      obtain ⟨F3, p3, r3⟩ := yl x H3 y
      rw [List.drop_eq_getElem_cons hlt] at w
      have g3 := (L.ag.step p3).wipe vs
      rw [L.ws] at g3
      refine ⟨F3, _, _, g3, r3, ?_⟩
      simp only [lcD] at w
      cases e1 : t ds[i] (wipeE env2 vs) with
      | bad => rw [e1] at w; cases w
      | exc y => exact absurd e1 (hx.ne _ _ _)
      | ok env3 =>
        rw [e1] at w
        simp only at w
        intro σ4 g4 st4
        obtain ⟨len3, ow3⟩ := hx.ow _ _ _ e1
        have out4 : ∀ i, i ∉ vs → σ4[i]? = σ[i]? := fun i hi => by rw [st4 i hi, wipe_out hi]
        have len4 : σ4.length = σ.length := by rw [g4.len, len3, ← g3.len, wipe_length]
        have ws4 := wipe_eq len4 out4
        have own3 : ∀ i : Nat, isOwn env3[i]? → i ∉ vs ∧ isOwn env1[i]? := fun i o => by
          have o2 := ow3 i o
          have ni : i ∉ vs := fun hi => by
            by_cases hl : i < env2.length
            · rw [wipeE_in hl hi] at o2; exact o2
            · rw [List.getElem?_eq_none (by rw [wipeE_len]; omega)] at o2; exact o2
          rw [wipeE_out ni] at o2
          exact ⟨ni, L.ow i o2⟩
        refine ⟨ws4, F3, env3, g4, ?_⟩
        cases e2 : tt env3 with
        | bad => rw [e2] at w; cases w
        | exc y => rw [e2] at w; cases w
        | ok q3 =>
          obtain ⟨bb, env4⟩ := q3
          rw [e2] at w
          intro F5 H5 l5 g5
          obtain ⟨us, hA2, rA⟩ := L.hA
          have hA3 : H3 A = some (.lst us) := p3.old _ _ hA2 (by simp) (fun _ z => nomatch z)
          have fA3 : F3 A = none := by rw [p3.new A (by rw [hA2]; simp)]; exact L.fA
          have nwA3 : Nw σ4 env3 A := nw_in nwA own3 out4
          have own4 : ∀ i : Nat, isOwn env4[i]? → i ∉ vs ∧ isOwn env1[i]? := fun i o => own3 i (l5.ow i o)
          have hA5 : H5 A = some (.lst us) := l5.fr _ _ hA3 nwA3 (fun _ z => nomatch z)
          have fA5 : F5 A = none := by rw [l5.nf A (by rw [hA3]; simp) nwA3]; exact fA3
          have fr5 : ∀ a o, H1 a = some o → Nw σ env1 a → NotT o → H5 a = some o := fun a o h n nt => l5.fr _ _ (p3.old _ _ (L.fr a o h n nt) (by simp) nt) (nw_in n own3 out4) nt
          have nf5 : ∀ a, H1 a ≠ none → Nw σ env1 a → F5 a = F1 a := fun a h n => by
            have t2 := L.tk a h
            rw [l5.nf a (p3.trk a t2) (nw_in n own3 out4), p3.new a t2, L.nf a h n]
          have tk5 : ∀ a, H1 a ≠ none → H5 a ≠ none := fun a h => l5.tk a (p3.trk a (L.tk a h))
          have le5 : Le F1 F5 := L.le.trans (p3.le.trans l5.le)
          have rA5 : Reps W F5 us acc := (rA.le p3.le).le l5.le
          cases bb with
          | false =>
            rw [if_neg (by decide)]
            exact ⟨F5, σ4, env4, acc, ⟨g5, ws4, le5, fA5, ⟨us, hA5, rA5⟩, fr5, nf5, tk5, fun i o => (own4 i o).2⟩, w⟩
          | true =>
            rw [if_pos rfl]
            refine ⟨F5, env4, g5, ?_⟩
            simp only at w
            cases e3 : te env4 with
            | bad => rw [e3] at w; cases w
            | exc y => rw [e3] at w; cases w
            | ok q4 =>
              obtain ⟨d5, env5⟩ := q4
              rw [e3] at w
              simp only at w
              split at w
              · rename_i hz
                intro F6 H6 v l6 g6 r6
                have nwA4 : Nw σ4 env4 A := nw_in nwA own4 out4
                have hA6 : H6 A = some (.lst us) := l6.fr _ _ hA5 nwA4 (fun _ z => nomatch z)
                have fA6 : F6 A = none := by rw [l6.nf A (by rw [hA5]; simp) nwA4]; exact fA5
                have own5 : ∀ i : Nat, isOwn env5[i]? → i ∉ vs ∧ isOwn env1[i]? := fun i o => own4 i (l6.ow i o)
                have nwA5 : Nw σ4 env5 A := nw_in nwA own5 out4
                refine ⟨us, hA6, by rw [rA.length]; exact hz, F6, σ4, env5, acc ++ [d5], ⟨g6.writeN b0 fA6 hA6 nwA5, ws4, le5.trans l6.le, fA6, ⟨_, upd_same, (rA5.le l6.le).append (.cons r6 .nil)⟩, fun a o h n nt => ?_, fun a h n => ?_, fun a h => ?_, fun i o => (own5 i o).2⟩, w⟩
                · have : a ≠ A := fun z => by rw [z, nA] at h; cases h
                  rw [upd_ne this]
                  exact l6.fr _ _ (fr5 a o h n nt) (nw_in n own4 out4) nt
                · rw [l6.nf a (tk5 a h) (nw_in n own4 out4)]
                  exact nf5 a h n
                · by_cases z : a = A
                  · rw [z, upd_same]; simp
                  · rw [upd_ne z]
                    exact l6.tk a (tk5 a h)
              · cases w
    · left
      have ei : i = ds.length := by omega
      subst ei
      rw [List.drop_length] at w
      cases w
      refine ⟨js, ?_⟩
      have gb := g1.back L.le L.ag L.ws
      have owb : ∀ i : Nat, isOwn (backE env1 env2 vs)[i]? → i ∉ vs ∧ isOwn env2[i]? := fun i o => by
        have ni : i ∉ vs := fun hi => by
          by_cases hl : i < env2.length
          · rw [backE_in hl hi] at o
            cases e : env1[i]? with
            | none => rw [e] at o; exact o
            | some s => rw [e] at o; cases s <;> exact o
          · rw [List.getElem?_eq_none (by rw [backE_len]; omega)] at o; exact o
        rw [backE_out ni] at o
        exact ⟨ni, o⟩
      obtain ⟨us, hA2, rA⟩ := L.hA
      refine h F2 H2 A (l.trans ⟨L.le, L.fr, L.nf, L.tk, fun i o => L.ow i (owb i o).2⟩) gb (fun i o => nwA i (L.ow i (owb i o).2)) ?_ L.fA ⟨us, hA2, rA⟩
      cases z : H A with
      | none => rfl
      | some o => exact absurd nA (l.tk A (by rw [z]; simp))
theorem po_lc {scope : Scope} {own : List (Str × Nat)} {mi : M (List D)} {t : MG} {tt : M Bool} {te : M D} {ifs : List Expr} {elt : Expr} (hc : X.calm = true) (hN : X.N.Nodup) (hi : PI X tg e (tI W B E mi)) (ok : BlkOk X.N X.env.scope scope own)
    (hg : ∀ (s : Shared) (H : Hp) (C : Addr) (cl : List (Str × Addr)) (fp : List Addr), PG (X.blk s H scope (compEnvC scope cl C X.env) fp) tg (gD W B (own.map (·.2)) t)) (ht : ∀ (s : Shared) (H : Hp) (C : Addr) (cl : List (Str × Addr)) (fp : List Addr), PTs (X.blk s H scope (compEnvC scope cl C X.env) fp) ifs (tT W B (fun _ _ _ => False) tt))
    (he : ∀ (s : Shared) (H : Hp) (C : Addr) (cl : List (Str × Addr)) (fp : List Addr), PE (X.blk s H scope (compEnvC scope cl C X.env) fp) elt (tD W B (fun _ _ _ => False) te)) (hs : ∀ x, foldedSetIterable e X.env x = pure x) (hx : GOk t) :
    PE X (.ListComp elt [⟨tg, e, ifs, 0⟩] scope pos) (tO W B E (mLc (own.map (·.2)) mi t tt te)) := PE.imp (pe_lc hc hN hi ok hg ht he hs) fun σ H Q ⟨F, env, ag, h⟩ => lc_end hx ag h
end
end Dl

set_option maxHeartbeats 4000000
/-! DLN: assignments of comprehensions, several names at once, chains of comparisons. -/
namespace Dl
open PySem PySem.W L2 PyProof.Rows
section
variable {X : Cx} {W : Wd} {B : Bs} {E : XK} {a b c e tg : Expr} {es : List Expr} {f f1 f2 f3 : M D} {pos apos p p2 : Pos} {x y z : Str} {ob : Bool}
theorem PTs.imp {t t' : TT} (h : PTs X es t) (m : ∀ σ H Q, t' σ H Q → t σ H Q) : PTs X es t' := ⟨fun pins s σ H Q I w => h.run pins s σ H Q I (m _ _ _ w)⟩
theorem pdts_nil : PTs X [] (tT W B E (M.ret true)) := PTs.imp pts_nil fun σ H Q ⟨F, env, g, h⟩ => h F H Stp.refl g
theorem pdts_one {t : M Bool} (h : PT X c (tT W B E t)) : PTs X [c] (tT W B E t) := pts_one h
/-- name = [..] on one line: owned -/
theorem pds_setLcO {i : Nat} {py spos : Pos} {scope : Scope} {own : List (Str × Nat)} {mi : M (List D)} {t : MG} {tt : M Bool} {te : M D} {ifs : List Expr} {elt : Expr} (hc : X.calm = true) (hN : X.N.Nodup) (hy : X.N[i]? = some y) (hyl : X.env.scope.names.lookup y = some .local)
    (hsw : swapsWith (.ListComp elt [⟨tg, e, ifs, 0⟩] scope pos) (some (.Name y py)) spos.line X.env = pure true) (hi : PI X tg e (tI W B E mi)) (ok : BlkOk X.N X.env.scope scope own)
    (hg : ∀ (s : Shared) (H : Hp) (C : Addr) (cl : List (Str × Addr)) (fp : List Addr), PG (X.blk s H scope (compEnvC scope cl C X.env) fp) tg (gD W B (own.map (·.2)) t)) (ht : ∀ (s : Shared) (H : Hp) (C : Addr) (cl : List (Str × Addr)) (fp : List Addr), PTs (X.blk s H scope (compEnvC scope cl C X.env) fp) ifs (tT W B (fun _ _ _ => False) tt))
    (he : ∀ (s : Shared) (H : Hp) (C : Addr) (cl : List (Str × Addr)) (fp : List Addr), PE (X.blk s H scope (compEnvC scope cl C X.env) fp) elt (tD W B (fun _ _ _ => False) te)) (hs : ∀ x, foldedSetIterable e X.env x = pure x) (hx : GOk t) :
    PS X (.Assign [.Name y py] (.ListComp elt [⟨tg, e, ifs, 0⟩] scope pos) spos) (tS W B E ob (sSetO i (mLc (own.map (·.2)) mi t tt te))) := PS.imp (ps_setLc hc hN hy hyl hsw hi ok hg ht he hs) fun Z σ H ⟨F, env, g, h⟩ => by
  refine lc_end hx g ?_
  unfold sSetO at h
  cases q : mLc (own.map (·.2)) mi t tt te env with
  | ok p => rw [q] at h; exact fun F' H' a l g' w n0 n r => h F' H' _ l.le (g'.setO (g.bs.free n0) n r w)
  | exc x => rw [q] at h; exact h
  | bad => rw [q] at h; exact h
/-- .. frozen -/
theorem pds_setLc {i : Nat} {py spos : Pos} {scope : Scope} {own : List (Str × Nat)} {mi : M (List D)} {t : MG} {tt : M Bool} {te : M D} {ifs : List Expr} {elt : Expr} (hc : X.calm = true) (hN : X.N.Nodup) (hy : X.N[i]? = some y) (hyl : X.env.scope.names.lookup y = some .local)
    (hsw : swapsWith (.ListComp elt [⟨tg, e, ifs, 0⟩] scope pos) (some (.Name y py)) spos.line X.env = pure true) (hi : PI X tg e (tI W B E mi)) (ok : BlkOk X.N X.env.scope scope own)
    (hg : ∀ (s : Shared) (H : Hp) (C : Addr) (cl : List (Str × Addr)) (fp : List Addr), PG (X.blk s H scope (compEnvC scope cl C X.env) fp) tg (gD W B (own.map (·.2)) t)) (ht : ∀ (s : Shared) (H : Hp) (C : Addr) (cl : List (Str × Addr)) (fp : List Addr), PTs (X.blk s H scope (compEnvC scope cl C X.env) fp) ifs (tT W B (fun _ _ _ => False) tt))
    (he : ∀ (s : Shared) (H : Hp) (C : Addr) (cl : List (Str × Addr)) (fp : List Addr), PE (X.blk s H scope (compEnvC scope cl C X.env) fp) elt (tD W B (fun _ _ _ => False) te)) (hs : ∀ x, foldedSetIterable e X.env x = pure x) (hx : GOk t) :
    PS X (.Assign [.Name y py] (.ListComp elt [⟨tg, e, ifs, 0⟩] scope pos) spos) (tS W B E ob (sSet i (mLc (own.map (·.2)) mi t tt te))) := PS.imp (ps_setLc hc hN hy hyl hsw hi ok hg ht he hs) fun Z σ H ⟨F, env, g, h⟩ => by
  refine lc_end hx g ?_
  unfold sSet at h
  cases q : mLc (own.map (·.2)) mi t tt te env with
  | ok p =>
    rw [q] at h
    intro F' H' a l g' w n0 n r
    obtain ⟨o, ho, le, rp⟩ := r.frz g'.sub n
    have g2 := g'.grow (g.bs.free n0) n ho (r.nt ho) w
    exact h _ H' _ (l.le.trans le) (g2.setP rp)
  | exc x => rw [q] at h; exact h
  | bad => rw [q] at h; exact h
/-! ### several names at once -/
inductive Nm where
  | e (m : M D) | o (m : M D)
def mNws : List Nm → M (List Sl)
  | [] => M.ret []
  | .e m :: r => M.bind m fun d => M.bind (mNws r) fun as => M.ret (.pu d :: as)
  | .o m :: r => M.bind m fun d => M.bind (mNws r) fun as => M.ret (.ow d :: as)
/-- values, some of them new and owned by nobody yet -/
def NwsOk (W : Wd) (B : Bs) (H0 : Hp) (σ : L2.St) (env : Ev) (F H : Hp) : List V → List Sl → Prop
  | [], [] => True
  | v :: vs, .pu d :: as => Rep W F v d ∧ NwsOk W B H0 σ env F H vs as
  | v :: vs, .ow d :: as => (∃ a, v = .ref a ∧ H0 a = none ∧ F a = none ∧ Own W F H a d ∧ Nw σ env a ∧ V.ref a ∉ vs) ∧ NwsOk W B H0 σ env F H vs as
  | _, _ => False
def WantN (W : Wd) (B : Bs) (E : XK) (F H : Hp) (env : Ev) (σ : L2.St) (Q : List V → Hp → Prop) : RE (List Sl) → Prop
  | .ok (as, env') => ∀ F' H' vs, Stp σ F H env F' H' env' → Ag W B F' H' σ env' → NwsOk W B H σ env' F' H' vs as → Q vs H'
  | .exc x => Xk W B.A B.F B.H E x
  | .bad => False
def tN (W : Wd) (B : Bs) (E : XK) (m : M (List Sl)) : TA := fun σ H Q => ∃ F env, Ag W B F H σ env ∧ WantN W B E F H env σ Q (m env)
end
/-- two names, plain -/
def sPar2 (i j : Nat) (m : M (List D)) : MS := fun env => (m env).bind fun q => match q.1 with
  | [u, v] => .ok (.nx, (q.2.set i (.pu u)).set j (.pu v))
  | _ => .bad
def sPar3 (i j l : Nat) (m : M (List D)) : MS := fun env => (m env).bind fun q => match q.1 with
  | [u, v, w] => .ok (.nx, ((q.2.set i (.pu u)).set j (.pu v)).set l (.pu w))
  | _ => .bad
section
variable {X : Cx} {W : Wd} {B : Bs} {E : XK} {a b c e tg : Expr} {es : List Expr} {f f1 f2 f3 : M D} {pos apos p p2 : Pos} {x y z : Str} {ob : Bool}
theorem pds_par2 {i j : Nat} {m : M (List D)} {px py pt : Pos} {kt k2 pt2} (hc : X.calm = true) (hN : X.N.Nodup) (hi : X.N[i]? = some x) (hj : X.N[j]? = some y) (hij : i ≠ j) (hx : X.env.scope.names.lookup x = some .local) (hy : X.env.scope.names.lookup y = some .local) (ha : PA X [a, b] (tA W B E m))
    (hw : swappedStores [.Tuple [.Name x px, .Name y py] kt pt] (.Tuple [a, b] k2 pt2) X.env = pure (some [x, y])) (hs : swapsWithSole [.Tuple [.Name x px, .Name y py] kt pt] (.Tuple [a, b] k2 pt2) pos.line X.env = pure false) :
    PS X (.Assign [.Tuple [.Name x px, .Name y py] kt pt] (.Tuple [a, b] k2 pt2) pos) (tS W B E ob (sPar2 i j m)) := PS.imp (ps_par hc hN hi hj hij hx hy ha hw hs) fun Z σ H ⟨F, env, g, h⟩ => by
  refine ⟨F, env, g, ?_⟩
  unfold sPar2 at h
  cases q : m env with
  | bad => rw [q] at h; exact h
  | exc x => rw [q] at h; exact h
  | ok q1 =>
    obtain ⟨ds, env1⟩ := q1
    rw [q] at h
    intro F1 H1 vs l g1 r
    simp only [R.bind] at h
    split at h
    · obtain ⟨u, v, rfl, ru, rv⟩ := reps2 r
      exact ⟨u, v, rfl, h F1 H1 _ l.le ((g1.setP ru).setP rv)⟩
    · exact h.elim
theorem reps3 {F : Hp} {vs : List V} {d e k : D} (r : Reps W F vs [d, e, k]) : ∃ v u w, vs = [v, u, w] ∧ Rep W F v d ∧ Rep W F u e ∧ Rep W F w k := by
  obtain ⟨v, q, rfl, h, h2⟩ := r
  obtain ⟨u, w, rfl, h3, h4⟩ := reps2 h2
  exact ⟨v, u, w, rfl, h, h3, h4⟩
theorem pds_par3 {i j l : Nat} {m : M (List D)} {px py pz pt : Pos} {kt k2 pt2} (hc : X.calm = true) (hN : X.N.Nodup) (hi : X.N[i]? = some x) (hj : X.N[j]? = some y) (hl : X.N[l]? = some z) (hij : i ≠ j) (hil : i ≠ l) (hjl : j ≠ l) (hx : X.env.scope.names.lookup x = some .local) (hy : X.env.scope.names.lookup y = some .local) (hz : X.env.scope.names.lookup z = some .local) (ha : PA X [a, b, c] (tA W B E m))
    (hw : swappedStores [.Tuple [.Name x px, .Name y py, .Name z pz] kt pt] (.Tuple [a, b, c] k2 pt2) X.env = pure (some [x, y, z])) (hs : swapsWithSole [.Tuple [.Name x px, .Name y py, .Name z pz] kt pt] (.Tuple [a, b, c] k2 pt2) pos.line X.env = pure false) :
    PS X (.Assign [.Tuple [.Name x px, .Name y py, .Name z pz] kt pt] (.Tuple [a, b, c] k2 pt2) pos) (tS W B E ob (sPar3 i j l m)) := PS.imp (ps_par3 hc hN hi hj hl hij hil hjl hx hy hz ha hw hs) fun Z σ H ⟨F, env, g, h⟩ => by
  refine ⟨F, env, g, ?_⟩
  unfold sPar3 at h
  cases q : m env with
  | bad => rw [q] at h; exact h
  | exc x => rw [q] at h; exact h
  | ok q1 =>
    obtain ⟨ds, env1⟩ := q1
    rw [q] at h
    intro F1 H1 vs l g1 r
    simp only [R.bind] at h
    split at h
    · obtain ⟨u, v, w, rfl, ru, rv, rw'⟩ := reps3 r
      exact ⟨u, v, w, rfl, h F1 H1 _ l.le (((g1.setP ru).setP rv).setP rw')⟩
    · exact h.elim
/-! ### a < b < c -/
def mChain (g g' : D → D → R D) (f1 f2 f3 : M D) : M D := M.bind f1 fun a => M.bind f2 fun b => M.bind (M.lift (g a b)) fun k => match k with
  | .bl true => M.bind f3 fun c => M.lift (g' b c)
  | .bl false => M.ret (.bl false)
  | _ => fun _ => .bad
theorem tChain_of {g g' : D → D → R D} {σ : L2.St} {H : Hp} {Q : VK} (h : tD W B E (mChain g g' f1 f2 f3) σ H Q) : tChain (rV2 W B E g) (rV2 W B E g') (tD W B E f1) (tD W B E f2) (tD W B E f3) σ H Q := by
  obtain ⟨F, env, ag, h⟩ := h
  refine want_bind ag h fun d1 env1 F1 H1 v1 l1 g1 r1 w => ?_
  refine want_bind g1 w fun d2 env2 F2 H2 v2 l2 g2 r2 w => ?_
  refine ⟨F2, d1, d2, g2.bs, r1.le l2.le, r2, ?_⟩
  cases e : g d1 d2 with
  | bad => rw [e] at w; exact w
  | exc x => rw [e] at w; exact w
  | ok k =>
    rw [e] at w
    replace w : Want W B E F2 H2 env2 σ Q ((match k with
      | .bl true => M.bind f3 fun c => M.lift (g' d2 c)
      | .bl false => M.ret (.bl false)
      | _ => fun _ => .bad) env2) := w
    intro F3 H3 v3 p3 r3
    split at w
    · cases r3
      refine ⟨true, rfl, ?_⟩
      rw [if_pos rfl]
      have g3 := g2.step p3
      refine want_bind g3 (Want.st w p3.stp) fun d4 env4 F4 H4 v4 l4 g4 r4 w4 => ?_
      exact ⟨F4, d2, d4, g4.bs, (r2.le p3.le).le l4.le, r4, want_lift g4 w4⟩
    · cases r3
      refine ⟨false, rfl, ?_⟩
      rw [if_neg (by decide)]
      exact w F3 H3 _ p3.stp (g2.step p3) rfl
    · exact w.elim
theorem pd_chain {op op' : CmpOp} {g g' : D → D → R D} (ho : OpR X (compareOp op) (rV2 W B E g)) (ho' : OpR X (compareOp op') (rV2 W B E g')) (ha : PE X a (tD W B E f1)) (hb : PE X b (tD W B E f2)) (hc : PE X c (tD W B E f3)) (hm : lastMarks [op, op'] [b, c] = false) :
    PE X (.Compare a [op, op'] [b, c] pos) (tD W B E (mChain g g' f1 f2 f3)) := PE.imp (pe_chain ho ho' ha hb hc hm) fun _ _ _ h => tChain_of h
theorem pdt_chain {op op' : CmpOp} {g g' : D → D → R D} (ho : OpR X (compareOp op) (rV2 W B E g)) (ho' : OpR X (compareOp op') (rV2 W B E g')) (ha : PE X a (tD W B E f1)) (hb : PE X b (tD W B E f2)) (hc : PE X c (tD W B E f3)) (hm : lastMarks [op, op'] [b, c] = false) :
    PT X (.Compare a [op, op'] [b, c] pos) (tT W B E (mB (mChain g g' f1 f2 f3))) := PT.imp (pt_chain ho ho' ha hb hc hm) fun σ H Q h => by
  have h1 := tTest_of h
  exact tChain_of h1
end
end Dl

set_option maxHeartbeats 4000000
/-! DLO: texts: constants, f-strings, str, bool, repr, methods. -/
namespace Dl
open PySem PySem.W L2 PyProof.Rows
open Wp (isIns)
section
variable {X : Cx} {W : Wd} {B : Bs} {E : XK} {a b c e o tg : Expr} {es : List Expr} {f f1 f2 f3 : M D} {pos apos p p2 : Pos} {x y : Str} {ob : Bool} {n : Nat}
def okSb (s : List Nat) : Bool := s.all (fun c => decide (c < 1114112)) && decide (s.length ≤ sizeLine)
theorem okSb_of {s : List Nat} (h : okSb s = true) : okS s := by
  unfold okSb at h
  simp only [Bool.and_eq_true, List.all_eq_true, decide_eq_true_eq] at h
  exact h
theorem okSb_iff {s : List Nat} : okSb s = true ↔ okS s := by
  unfold okSb okS
  simp only [Bool.and_eq_true, List.all_eq_true, decide_eq_true_eq]
/-! ### constants -/
theorem pd_ci {i : Int} {j : Nat} : PE X (.Constant (.int i) j pos) (tD W B E (M.ret (.int i))) := pd_const pe_int fun _ => rfl
theorem pd_cs {z : Str} {s : List Nat} {j : Nat} (h : z.cps.toList = s) (ok : okSb s = true) : PE X (.Constant (.str z) j pos) (tD W B E (M.ret (.str s))) := pd_const pe_str fun _ => ⟨z, rfl, h, okSb_of ok⟩
theorem pd_cb {k : Bool} {j : Nat} (h : PE X e (tC (.bl k))) : PE X e (tD W B E (M.ret (.bl k))) := pd_const h fun _ => rfl
theorem pd_cn (h : PE X e (tC .non)) : PE X e (tD W B E (M.ret .non)) := pd_const h fun _ => rfl
/-- a global text, a global number -/
theorem pd_gs {z : Str} {t : Tok} {s : List Nat} (hg : Gl X x) (hm : X.mg x = some (.str z t)) (hd : (x == ("__debug__" : Str)) = false) (h : z.cps.toList = s) (ok : okSb s = true) : PE X (.Name x pos) (tD W B E (M.ret (.str s))) := pd_const (pe_glob (v := .str z) hg hm ⟨t, rfl⟩ hd) fun _ => ⟨z, rfl, h, okSb_of ok⟩
theorem pd_gi {i : Int} {t : Tok} (hg : Gl X x) (hm : X.mg x = some (.int i t)) (hd : (x == ("__debug__" : Str)) = false) : PE X (.Name x pos) (tD W B E (M.ret (.int i))) := pd_const (pe_glob (v := .int i) hg hm ⟨t, rfl⟩ hd) fun _ => rfl
/-- a def of the module as a value -/
theorem pd_gf {k : Nat} (hg : Gl X x) (hm : X.mg x = some (.ref (W.fa k))) (hd : (x == ("__debug__" : Str)) = false) : PE X (.Name x pos) (tD W B E (M.ret (.fn k))) := pd_const (pe_glob (v := .ref (W.fa k)) hg hm rfl hd) fun _ => rfl
/-! ### -e -/
def negD : D → R D
  | .int i => .ok (.int (-i))
  | _ => .bad
theorem v_neg : UnR X (unaryOp .USub) (rV1 W B E negD) := by
  intro pins s σ H x v Q I r ⟨F, d, bs, rp, o⟩
  unfold negD at o
  split at o
  · cases rp
    exact un_neg pins s σ H _ v Q I r ⟨_, rfl, out_flat bs o rfl⟩
  · exact o.elim
/-! ### f-strings -/
def strI (i : Int) : List Nat := (Str.ofString (toString i)).cps.toList
def fmtD : D → R D
  | .str s => .ok (.str s)
  | .int i => if i.natAbs.log2 < 1920 ∧ okSb (strI i) = true then .ok (.str (strI i)) else .bad
  | _ => .bad
theorem pd_fmt (he : PE X e (tD W B E f)) : PE X (.FormattedValue e (-1) none pos) (tD W B E (m1 fmtD f)) := PE.imp (Wp.pe_fmtU he) fun σ H Q ⟨F, env, ag, h⟩ => by
  refine want_bind ag h fun d env1 F1 H1 v l g1 r w => ?_
  have o := want_lift g1 w
  show Wp.rFmt v H1 Q
  unfold fmtD at o
  split at o
  · obtain ⟨z, rfl, hz, ok⟩ := r
    exact ⟨by rw [len_cps, hz]; exact ok.2, out_flat g1.bs o ⟨z, rfl, hz, ok⟩⟩
  · cases r
    split at o
    · rename_i hc
      exact ⟨hc.1, out_flat g1.bs o ⟨_, rfl, rfl, okSb_of hc.2⟩⟩
    · exact o.elim
  · exact o.elim
def mFs : List (M D) → List Nat → M D
  | [], acc => M.ret (.str acc)
  | m :: ms, acc => M.bind m fun d => match d with
    | .str s => if acc.length + s.length ≤ sizeLine then mFs ms (acc ++ s) else fun _ => .bad
    | _ => fun _ => .bad
inductive PJd (X : Cx) (W : Wd) (B : Bs) (E : XK) : List Expr → List (M D) → Prop where
  | nil : PJd X W B E [] []
  | cons {e : Expr} {m : M D} {es : List Expr} {ms : List (M D)} (h : PE X e (tD W B E m)) (r : PJd X W B E es ms) : PJd X W B E (e :: es) (m :: ms)
theorem PJd.pj {ms : List (M D)} (h : PJd X W B E es ms) : PJ X es (ms.map (tD W B E)) := by
  induction h with
  | nil => exact .nil
  | cons h r ih => exact .cons h ih
theorem fs_end {σ : L2.St} {Q : VK} : ∀ {ms : List (M D)} {acc : List Nat} {z : Str} {F H : Hp} {env : Ev}, z.cps.toList = acc → okS acc → Ag W B F H σ env → Want W B E F H env σ Q (mFs ms acc env) → Wp.tJsU (ms.map (tD W B E)) z σ H fun out H1 => Q (.str out) H1
  | [], acc, z, F, H, env, hz, ok, g, w => w F H (.str z) Stp.refl g ⟨z, rfl, hz, ok⟩
  | m :: ms, acc, z, F, H, env, hz, ok, g, w => by
    refine want_bind g w fun d env1 F1 H1 v l g1 r w1 => ?_
    split at w1
    · rename_i s
      obtain ⟨y, rfl, hy, ok2⟩ := r
      split at w1
      · rename_i hl
        refine ⟨by rw [len_cps, app_cps, hz, hy, List.length_append]; exact hl, ?_⟩
        exact fs_end (by rw [app_cps, hz, hy]) (okS_app ok ok2 hl) g1 w1
      · exact w1.elim
    · exact w1.elim
theorem okS_nil : okS [] := ⟨fun _ h => (nomatch h), Nat.zero_le _⟩
theorem pd_joined {v1 v2 : Expr} {ms : List (M D)} (h : PJd X W B E (v1 :: v2 :: es) ms) : PE X (.JoinedStr (v1 :: v2 :: es) pos) (tD W B E (mFs ms [])) := PE.imp (Wp.pe_joinedU h.pj) fun σ H Q ⟨F, env, ag, w⟩ => fs_end rfl okS_nil ag w
theorem pd_joined1 (h : PE X e (tD W B E f)) : PE X (.JoinedStr [e] pos) (tD W B E f) := pe_joined1 h
/-! ### str(..), bool(..) -/
/-- the class's own str, bool -/
structure StL (X : Cx) (W : Wd) (n : Nat) (nm : Str) (c : Nat) (g : List Sl → RF) : Prop where
  ex : ∃ f, findIn X.K (.ref (W.cl c)) nm = some (some (.ref f)) ∧ isFn X.K (.ref f) = true ∧ CalOk X.prog X.w X.K X.mg X.base n (.ref f) [] (spT W false g)
def asS : R D → R D
  | .ok (.str s) => .ok (.str s)
  | .ok _ => .bad
  | r => r
def gStr (st : Nat → Option (List Sl → RF)) : List D → R D
  | [.str s] => .ok (.str s)
  | [.int i] => if i.natAbs.log2 < 1920 ∧ okSb (strI i) = true then .ok (.str (strI i)) else .bad
  | [.ins c ns ds] => (match st c with
    | some g => asS (call1 g (.ins c ns ds))
    | none => .bad)
  | _ => .bad
theorem v_str {st : Nat → Option (List Sl → RF)} (hr : Room (n + 2) X.A) (gd : X.A.guards = some []) (hx : Passes (L2.CX X.prog X.w) X E) (hst : ∀ c g, st c = some g → StL X W n "__str__" c g) : CallR X (.type "str") (rVs W B E (gStr st)) := by
  intro pins s σ H xs us Q I r ⟨F, ds, bs, rp, o⟩
  unfold gStr at o
  split at o
  · obtain ⟨v, rfl, z, rfl, hz, ok⟩ := reps1 rp
    exact SkE.call_str_str pins s σ H _ us Q I r ⟨_, rfl, out_flat bs o ⟨z, rfl, hz, ok⟩⟩
  · obtain ⟨v, rfl, rfl⟩ := reps1 rp
    split at o
    · rename_i hc
      exact call_str_int pins s σ H _ us Q I r ⟨_, rfl, hc.1, out_flat bs o ⟨_, rfl, rfl, okSb_of hc.2⟩⟩
    · exact o.elim
  · rename_i c ns dd
    obtain ⟨v, rfl, rv⟩ := reps1 rp
    split at o
    · rename_i g hg
      obtain ⟨f, h1, h2, C⟩ := hst c g hg
      have rv' := rv
      obtain ⟨pp, dx, fvs, rfl, hp, ci, _⟩ := rv
      refine call_strC (C := W.cl c) h1 h2 C hr gd hx pins s σ H _ us Q I r ?_
      refine ⟨?_, ?_⟩
      · unfold isIns
        simp only [bs.sub _ _ hp]
      · refine call1_of bs rv' ?_
        cases e : call1 g (.ins c ns dd) with
        | bad => rw [e] at o; exact o
        | exc x => rw [e] at o; exact o
        | ok d =>
          rw [e] at o
          cases d with
          | str s =>
            intro F' H' v p3 r3
            obtain ⟨z, rfl, hz, ok⟩ := r3
            exact ⟨z, rfl, o F' H' _ p3 ⟨z, rfl, hz, ok⟩⟩
          | _ => exact o.elim
    · exact o.elim
  · exact o.elim
def asBl : R D → R D
  | .ok (.bl s) => .ok (.bl s)
  | .ok _ => .bad
  | r => r
def gBool (st : Nat → Option (List Sl → RF)) : List D → R D
  | [.bl b] => .ok (.bl b)
  | [.int i] => .ok (.bl (i != 0))
  | [.lst xs] => .ok (.bl (!xs.isEmpty))
  | [.ins c ns ds] => (match st c with
    | some g => asBl (call1 g (.ins c ns ds))
    | none => .bad)
  | _ => .bad
theorem v_bool {st : Nat → Option (List Sl → RF)} (hr : Room (n + 2) X.A) (gd : X.A.guards = some []) (hx : Passes (L2.CX X.prog X.w) X E) (hst : ∀ c g, st c = some g → StL X W n "__bool__" c g) : CallR X (.type "bool") (rVs W B E (gBool st)) := by
  intro pins s σ H xs us Q I r ⟨F, ds, bs, rp, o⟩
  unfold gBool at o
  split at o
  · obtain ⟨v, rfl, rfl⟩ := reps1 rp
    exact call_bool1 pins s σ H _ us Q I r (.inr ⟨_, rfl, out_flat bs o rfl⟩)
  · obtain ⟨v, rfl, rfl⟩ := reps1 rp
    exact call_bool1 pins s σ H _ us Q I r (.inl ⟨_, rfl, out_flat bs o rfl⟩)
  · obtain ⟨v, rfl, h⟩ := reps1 rp
    obtain ⟨p, ys, rfl, h, q⟩ := seq_of (K := X.K) bs.sub h rfl
    exact L2.call_boolL pins s σ H _ us Q I r ⟨_, _, rfl, h, by rw [isE q]; exact out_flat bs o rfl⟩
  · rename_i c ns dd
    obtain ⟨v, rfl, rv⟩ := reps1 rp
    split at o
    · rename_i g hg
      obtain ⟨f, h1, h2, C⟩ := hst c g hg
      have rv' := rv
      obtain ⟨pp, dx, fvs, rfl, hp, ci, _⟩ := rv
      refine call_boolC (C := W.cl c) h1 h2 C hr gd hx pins s σ H _ us Q I r ?_
      refine ⟨?_, ?_⟩
      · unfold isIns
        simp only [bs.sub _ _ hp]
      · refine call1_of bs rv' ?_
        cases e : call1 g (.ins c ns dd) with
        | bad => rw [e] at o; exact o
        | exc x => rw [e] at o; exact o
        | ok d =>
          rw [e] at o
          cases d with
          | bl s =>
            intro F' H' v p3 r3
            cases r3
            exact ⟨s, rfl, o F' H' _ p3 rfl⟩
          | _ => exact o.elim
    · exact o.elim
  · exact o.elim
/-! ### methods of texts -/
def txts : List D → Option (List (List Nat))
  | [] => some []
  | .str s :: r => (txts r).map (s :: ·)
  | _ => none
theorem txts_of {F : Hp} : ∀ {ds : List D} {vs : List V} {ss : List (List Nat)}, Reps W F vs ds → txts ds = some ss → vs = (ss.map SX.S).map V.str ∧ ∀ s ∈ ss, okS s
  | [], vs, ss, r, e => by cases e; cases r; exact ⟨rfl, fun _ h => nomatch h⟩
  | d :: ds, vs, ss, r, e => by
    obtain ⟨v, q, rfl, h, h2⟩ := r
    cases d with
    | str s =>
      cases e' : txts ds with
      | none => simp [txts, e'] at e
      | some ss' =>
        simp [txts, e'] at e
        subst e
        obtain ⟨z, rfl, hz, ok⟩ := h
        obtain ⟨hy, oks⟩ := txts_of h2 e'
        subst hz
        refine ⟨by rw [hy, List.map_cons, List.map_cons, SX.S_tl], fun s hs => ?_⟩
        rcases List.mem_cons.mp hs with rfl | hs
        · exact ok
        · exact oks s hs
    | _ => simp [txts] at e
theorem reps_txts {F : Hp} : ∀ {ss : List (List Nat)}, (∀ s ∈ ss, okS s) → Reps W F ((ss.map SX.S).map V.str) (ss.map D.str)
  | [], _ => .nil
  | s :: ss, h => .cons ⟨_, rfl, rfl, h s (by simp)⟩ (reps_txts fun z hz => h z (by simp [hz]))
def sumLen (ss : List (List Nat)) : Nat := (ss.map List.length).sum
theorem joinL_ok {s : List Nat} (hs : ∀ c ∈ s, c < 1114112) : ∀ {ss : List (List Nat)}, (∀ x ∈ ss, ∀ c ∈ x, c < 1114112) → (∀ c ∈ TL.joinL s ss, c < 1114112) ∧ (TL.joinL s ss).length ≤ sumLen ss + ss.length * s.length
  | [], h => ⟨fun _ h => (nomatch h), Nat.zero_le _⟩
  | [x], h => ⟨fun c hc => h x (by simp) c hc, by simp [TL.joinL, sumLen]⟩
  | x :: y :: r, h => by
    obtain ⟨h1, h2⟩ := joinL_ok (ss := y :: r) hs (fun z hz => h z (List.mem_cons_of_mem _ hz))
    refine ⟨fun c hc => ?_, ?_⟩
    · simp only [TL.joinL, List.mem_append] at hc
      rcases hc with hc | hc | hc
      · exact h x (by simp) c hc
      · exact hs c hc
      · exact h1 c hc
    · simp only [TL.joinL, List.length_append]
      have e1 : sumLen (x :: y :: r) = x.length + sumLen (y :: r) := by simp [sumLen]
      have e2 : (x :: y :: r).length * s.length = s.length + (y :: r).length * s.length := by simp only [List.length_cons, Nat.succ_mul]; omega
      rw [e1, e2]
      omega
/-- a method of a text, one argument -/
def mM1 (g : List Nat → D → R D) (f1 f2 : M D) : M D := M.bind f1 fun a => match a with
  | .str s => M.bind f2 fun b => M.lift (g s b)
  | _ => fun _ => .bad
def gJoin (s : List Nat) (xs : D) : R D := match itemsD xs with
  | some ds => (match txts ds with
    | some ss => if sumLen ss + ss.length * s.length ≤ sizeLine then .ok (.str (TL.joinL s ss)) else .bad
    | none => .bad)
  | _ => .bad
theorem pd_join (ho : PE X o (tD W B E f1)) (he : PE X e (tD W B E f2)) (hs : isStar e = false) (hb : plainBase o = true) (hl : (apos.endLine == pos.line) = true) : PE X (.Call (.Attribute o "join" apos) [e] [] pos) (tD W B E (mM1 gJoin f1 f2)) := PE.imp (pe_join ho he (by rw [starEach_of hs]; rfl) (attributeBase_of hb) hl) fun σ H Q ⟨F, env, ag, h⟩ => by
  refine want_bind ag h fun d1 env1 F1 H1 v1 l1 g1 r1 w => ?_
  split at w
  · rename_i s
    obtain ⟨z, rfl, hz, ok⟩ := r1
    refine ⟨⟨z, rfl⟩, want_bind g1 w fun d2 env2 F2 H2 v2 l2 g2 r2 w => ?_⟩
    have o := want_lift g2 w
    unfold gJoin at o
    split at o
    · rename_i ds hds
      obtain ⟨p, xs, rfl, sq, rx⟩ := items_of (K := X.K) g2.sub r2 hds
      split at o
      · rename_i ss hss
        obtain ⟨rfl, oks⟩ := txts_of rx hss
        split at o
        · rename_i hz2
          subst hz
          refine ⟨z, p, ss.map SX.S, rfl, rfl, sq.symm, ?_, ?_⟩
          · rw [SX.lens, List.length_map, len_cps]
            have : sizeLine ≤ 16777216 := by rw [sizeLine_eq]; omega
            exact Nat.le_trans hz2 this
          · rw [← SX.S_tl z, SX.join_S]
            obtain ⟨j1, j2⟩ := joinL_ok ok.1 (fun x hx => (oks x hx).1)
            exact out_flat g2.bs o ⟨_, rfl, rfl, j1, Nat.le_trans j2 hz2⟩
        · exact o.elim
      · exact o.elim
    · exact o.elim
  · exact w.elim
def gSplit (s : List Nat) (sep : D) : R D := match sep with
  | .str t => if t ≠ [] ∧ t.all (· < 256) = true ∧ s.length + 2 ≤ sizeLine ∧ (TL.spl t 0 [] s).all okSb = true then .ok (.lst ((TL.spl t 0 [] s).map D.str)) else .bad
  | _ => .bad
/-- owned result -/
theorem po_split (ho : PE X o (tD W B E f1)) (he : PE X e (tD W B E f2)) (hs : isStar e = false) (hb : plainBase o = true) (hl : (apos.endLine == pos.line) = true) : PE X (.Call (.Attribute o "split" apos) [e] [] pos) (tO W B E (mM1 gSplit f1 f2)) := PE.imp (pe_split ho he (by rw [starEach_of hs]; rfl) (attributeBase_of hb) hl) fun σ H Q ⟨F, env, ag, h⟩ => by
  refine wantE_bind (G := fun F H env r => WantO W B E F H env σ Q r) ag h (fun _ _ _ _ _ _ _ l w => WantO.st w l) (fun _ _ _ _ w => w) (fun _ _ _ w => w) fun d1 env1 F1 H1 v1 l1 g1 r1 w => ?_
  split at w
  · rename_i s
    obtain ⟨z, rfl, hz, ok⟩ := r1
    refine ⟨⟨z, rfl⟩, wantE_bind (G := fun F H env r => WantO W B E F H env σ Q r) g1 w (fun _ _ _ _ _ _ _ l w => WantO.st w l) (fun _ _ _ _ w => w) (fun _ _ _ w => w) fun d2 env2 F2 H2 v2 l2 g2 r2 w => ?_⟩
    have o := wantO_lift g2 w
    unfold gSplit at o
    split at o
    · rename_i t
      obtain ⟨y, rfl, hy, ok2⟩ := r2
      split at o
      · rename_i hc
        obtain ⟨c1, c2, c3, c4⟩ := hc
        subst hz hy
        refine ⟨z, y, rfl, rfl, ?_, ?_, fun p hp => ?_⟩
        · rw [len_cps]
          cases q : y.cps.toList with
          | nil => exact absurd q c1
          | cons _ _ => rfl
        · rw [len_cps]; exact c3
        · rw [← SX.S_tl z, ← SX.S_tl y, SX.split_S c1 c2]
          refine outO_new g2.bs o hp ⟨_, upd_same, reps_txts fun s hs => ?_⟩
          rw [List.all_eq_true] at c4
          exact okSb_of (c4 s hs)
      · exact o.elim
    · exact o.elim
  · exact w.elim
end
end Dl

set_option maxHeartbeats 4000000
/-! DLP: exceptions of the text's own classes: made and raised. -/
namespace Dl
open PySem PySem.W L2 PyProof.Rows
/-- __init__ of an exception: self.f = p, field by field -/
inductive InitB (W : Wd) (N : List Str) (sc : Scope) : List Stmt → List Nat → Nat → Prop where
  | nil {k : Nat} : InitB W N sc [] [] k
  | cons {f : Nat} {fs : List Nat} {k : Nat} {rest : List Stmt} {q : Str} {p1 p2 p3 p4 : Pos} (h : N[k]? = some q) (hv : Vis sc q) (hd : (q == ("__debug__" : Str)) = false) (hcd : (q == ("__classdict__" : Str)) = false) (r : InitB W N sc rest fs (k + 1)) :
    InitB W N sc (.Assign [.Attribute (.Name "self" p1) (W.fl f) p2] (.Name q p3) p4 :: rest) (f :: fs) k
theorem upd_id {H : Hp} {a : Addr} {o : HO} (h : H a = some o) : upd H a o = H := by
  funext b
  by_cases e : b = a
  · rw [e, upd_same, h]
  · rw [upd_ne e]
theorem upd_upd {H : Hp} {a : Addr} {o u : HO} : upd (upd H a o) a u = upd H a u := by
  funext b
  by_cases e : b = a
  · rw [e, upd_same, upd_same]
  · rw [upd_ne e, upd_ne e, upd_ne e]
/-- the fields, the last one first -/
def xfs (W : Wd) : List Nat → List V → List (Str × V) → List (Str × V)
  | f :: fs, v :: vs, acc => xfs W fs vs ((W.fl f, v) :: acc)
  | _, _, acc => acc
theorem init_rest {X : Cx} {W : Wd} {C : Addr} (T : OexC X.K C) (hN : X.N[0]? = some ("self" : Str)) (hv : Vis X.env.scope "self") {body : List Stmt} {fs : List Nat} {k : Nat} (h : InitB W X.N X.env.scope body fs k) (no : ∀ f ∈ fs, findIn X.K (.ref C) (W.fl f) = some none) :
    PSs X body (fun D σ H => ∃ (a dx : Addr) (gs : List (Str × V)) (vs : List V), σ[0]? = some (some (.ref a)) ∧ (∀ i v, vs[i]? = some v → σ[k + i]? = some (some v)) ∧ vs.length = fs.length ∧ H a = some (exo a C (some dx)) ∧ H dx = some (exd dx gs) ∧ dx ≠ a ∧ gs.length + fs.length ≤ 900 ∧ D.nx σ (upd H dx (exd dx (xfs W fs vs gs)))) := by
  induction h with
  | nil =>
    refine PSs.imp pss_nil fun D σ H h => ?_
    obtain ⟨a, dx, gs, vs, h1, h2, h3, h4, h5, h6, h7, h8⟩ := h
    rw [show xfs W [] vs gs = gs from by cases vs <;> rfl, upd_id h5] at h8
    exact h8
  | @cons f fs k rest q p1 p2 p3 p4 hq hvq hd hcd r ih =>
    refine PSs.imp (pss_cons (ps_ost (pe_var hN hv (by decide) (by decide)) (pe_var hq hvq hd hcd) rfl) (ih fun g hg => no g (by simp [hg]))) fun D σ H h => ?_
    obtain ⟨a, dx, gs, vs, h1, h2, h3, h4, h5, h6, h7, h8⟩ := h
    cases vs with
    | nil => cases h3
    | cons v vs =>
      refine ⟨v, by simpa using h2 0 v rfl, .ref a, h1, a, C, rfl, T, no f (by simp), .inr ⟨dx, gs, h4, h5, by simp at h7; omega, ?_⟩⟩
      refine ⟨a, dx, (W.fl f, v) :: gs, vs, h1, fun i u hu => ?_, by simpa using h3, by rw [upd_ne (Ne.symm h6)]; exact h4, upd_same, h6, by simp at h7 ⊢; omega, ?_⟩
      · have := h2 (i + 1) u (by simpa using hu)
        rw [show k + 1 + i = k + (i + 1) from by omega]
        exact this
      · rw [upd_upd]
        exact h8
def spX (W : Wd) (C : Addr) (fs : List Nat) : Sp := fun us H Q _ => ∃ a vs, us = .ref a :: vs ∧ vs.length = fs.length ∧ H a = some (exo a C none) ∧ ∀ dx, H dx = none → dx ≠ a → Q .non (upd (upd H dx (exd dx (xfs W fs vs []))) a (exo a C (some dx)))
theorem upd_comm {H : Hp} {a b : Addr} {o u : HO} (h : a ≠ b) : upd (upd H a o) b u = upd (upd H b u) a o := by
  funext c
  by_cases e : c = b
  · subst e; rw [upd_same, upd_ne (Ne.symm h), upd_same]
  · by_cases e2 : c = a
    · subst e2; rw [upd_ne e, upd_same, upd_same]
    · rw [upd_ne e, upd_ne e2, upd_ne e2, upd_ne e]
/-- an exception's own __init__ -/
theorem init_ok {P : Program} {w : World} {K : Frag} {mg : Str → Option Value} {base : Heap} {nm ql : Str} {pr : Arguments} {bd : List Stmt} {sc : Scope} {dv : List V} {kd : List (Str × V)} {fI : Addr} {fd : FuncData} {N ps : List Str} {W : Wd} {C : Addr} {fs : List Nat}
    (F : FunD K nm ql pr bd sc dv kd fI fd) (S : FnScope N ps sc) (hps : ps.length = fs.length + 1) (hne : fs ≠ []) (hlen : fs.length ≤ 100) (hN : N[0]? = some ("self" : Str)) (hv : Vis sc "self") (T : OexC K C) (no : ∀ f ∈ fs, findIn K (.ref C) (W.fl f) = some none) (hI : InitB W N sc bd fs 1) :
    FnOk P w K mg base (L2.CX P w) 1 fI fd ps (spX W C fs) := by
  refine F.ok S (fun vs H Q E h => ?_) (fun cdv A outer s H vs Q E hr h => ?_)
  · obtain ⟨a, ws, rfl, hl, _⟩ := h
    simp [hl, hps]
  · obtain ⟨a, ws, rfl, hl, ha, q⟩ := h
    cases hI with
    | nil => exact absurd rfl hne
    | @cons f fs k rest qn p1 p2 p3 p4 hq hvq hd hcd r =>
      refine ⟨_, pss_cons (ps_ost (pe_var (X := cxOf (L2.CX P w) P w K mg base N ql sc fI cdv A outer s H E) hN hv (by decide) (by decide)) (pe_var hq hvq hd hcd) rfl) (init_rest (X := cxOf (L2.CX P w) P w K mg base N ql sc fI cdv A outer s H E) T hN hv r fun g hg => no g (by simp [hg])), ?_⟩
      cases ws with
      | nil => cases hl
      | cons v ws =>
        have hNl : ps.length ≤ N.length := by
          have := S.pre
          have l := congrArg List.length this
          rw [List.length_take] at l
          omega
        have st : ∀ i u, (V.ref a :: v :: ws)[i]? = some u → (L2.start N (V.ref a :: v :: ws))[i]? = some (some u) := fun i u hu => by
          have hi := get_lt hu
          unfold L2.start
          rw [List.getElem?_append_left (by simpa using hi), List.getElem?_map, hu]
          rfl
        refine ⟨v, st 1 v rfl, .ref a, st 0 _ rfl, a, C, rfl, T, no f (by simp), .inl ⟨ha, fun dx hdx ne => ?_⟩⟩
        refine ⟨a, dx, [(W.fl f, v)], ws, st 0 _ rfl, fun i u hu => ?_, by simpa using hl, upd_same, by rw [upd_ne ne, upd_same], ne, by simp at hlen ⊢; omega, ?_⟩
        · rw [show 1 + 1 + i = i + 2 from by omega]
          exact st (i + 2) u (by simpa using hu)
        · have := q dx hdx ne
          rw [upd_comm (Ne.symm ne), upd_upd]
          exact this
/-- what raising the class c asks: its fields are fs -/
structure XcL (X : Cx) (W : Wd) (c : Nat) (fs : List Nat) : Prop where
  T : OexC X.K (W.cl c)
  xi : XI W c fs
  ini : ∃ fI fd ps, findIn X.K (.ref (W.cl c)) "__init__" = some (some (.ref fI)) ∧ typeIn X.K (.ref fI) = some (.type "function") ∧ FnOk X.prog X.w X.K X.mg X.base (L2.CX X.prog X.w) 1 fI fd ps (spX W (W.cl c) fs) ∧ Binds X.K fd ps []
section
variable {X : Cx} {W : Wd} {B : Bs} {E : XK} {e : Expr} {es : List Expr} {pos p p2 : Pos} {x : Str} {ob : Bool} {c : Nat} {fs : List Nat} {m : M (List D)}
def sRaise (c : Nat) (fs : List Nat) (m : M (List D)) : MS := fun env => (m env).bind fun q => if q.1.length = fs.length then .exc ⟨c, fs.reverse, q.1.reverse⟩ else .bad
theorem xfs_eq (W : Wd) : ∀ (fs : List Nat) (vs : List V) (acc : List (Str × V)), vs.length = fs.length → (xfs W fs vs acc).map (·.1) = fs.reverse.map W.fl ++ acc.map (·.1) ∧ (xfs W fs vs acc).map (·.2) = vs.reverse ++ acc.map (·.2)
  | [], [], acc, _ => ⟨rfl, rfl⟩
  | f :: fs, v :: vs, acc, h => by
    obtain ⟨h1, h2⟩ := xfs_eq W fs vs ((W.fl f, v) :: acc) (by simpa using h)
    simp only [xfs]
    rw [h1, h2]
    simp
  | [], v :: vs, acc, h => by cases h
  | f :: fs, [], acc, h => by cases h
theorem Reps.rev {F : Hp} : ∀ {ds : List D} {vs : List V}, Reps W F vs ds → Reps W F vs.reverse ds.reverse
  | [], vs, r => by cases r; exact .nil
  | d :: ds, vs, r => by
    obtain ⟨v, q, rfl, h, h2⟩ := r
    rw [List.reverse_cons, List.reverse_cons]
    exact (Reps.rev h2).append (.cons h .nil)
theorem pds_raise (hc : X.calm = true) (hK : X.K = W.K) (tk : Takes X (fun cls d _ H => E cls d H)) (Rx : XcL X W c fs) (hr : Room 2 X.A) (hg : Gl X x) (hm : X.mg x = some (.ref (W.cl c))) (ha : PA X (e :: es) (tA W B E m)) (hdb : (x == ("__debug__" : Str)) = false) (hs : (e :: es).any isStar = false) (hl : fs.length ≤ 100) :
    PS X (.Raise (some (.Call (.Name x p) (e :: es) [] p2)) none pos) (tS W B E ob (sRaise c fs m)) := by
  simp only [List.any_cons, Bool.or_eq_false_iff] at hs
  obtain ⟨fI, fd, ps, h1, h2, F1, hb⟩ := Rx.ini
  refine PS.imp (ps_raise hc tk (pmk_oex Rx.T h1 h2 F1 hr hb .nil passF hg hm ha hdb (starEach_of hs.1) (pl_of hs.2))) fun Z σ H ⟨F, env, ag, h⟩ => ?_
  refine ⟨F, env, ag, ?_⟩
  unfold sRaise at h
  cases q : m env with
  | bad => rw [q] at h; exact h
  | exc x => rw [q] at h; exact h
  | ok q1 =>
    obtain ⟨ds, env1⟩ := q1
    rw [q] at h
    simp only [R.bind] at h
    split at h
    · rename_i hlen
      intro F1 H1 vs l g1 r
      have hvl : vs.length = fs.length := by rw [r.length]; exact hlen
      refine ⟨by omega, fun a na => ⟨a, vs, by simp, hvl, upd_same, fun dx ndx ne => ⟨rfl, dx, xfs W fs vs [], upd_same, ?_, ?_, ?_⟩⟩⟩
      · rw [upd_ne ne, upd_same]
      · rw [upd_ne ne] at ndx; exact ndx
      · have nd : H1 dx = none := by rw [upd_ne ne] at ndx; exact ndx
        have eH : upd (del (upd (upd (upd H1 a (exo a (W.cl c) none)) dx (exd dx (xfs W fs vs []))) a (exo a (W.cl c) (some dx))) a) dx (.xd (xfs W fs vs [])) = upd H1 dx (.xd (xfs W fs vs [])) := by
          funext b
          by_cases b1 : b = dx
          · rw [b1, upd_same, upd_same]
          · rw [upd_ne b1, upd_ne b1]
            unfold del
            by_cases b2 : b = a
            · rw [if_pos b2, b2, na]
            · rw [if_neg b2, upd_ne b2, upd_ne b1, upd_ne b2]
        rw [eH]
        have p := PStep.fz (W := W) (o := .xd (xfs W fs vs [])) g1.sub g1.tabs nd
        obtain ⟨k1, k2⟩ := xfs_eq W fs vs [] hvl
        refine h _ _ dx (g1.bs.trans0 p) ⟨_, upd_same, ?_, by simpa using k1, ?_⟩
        · exact ⟨Rx.xi.1, Rx.xi.2.1, fun n hn => Rx.xi.2.2 n (by simpa using hn)⟩
        · rw [k2, List.map_nil, List.append_nil]
          exact (r.rev).le p.le
    · exact h.elim
end
end Dl

set_option maxHeartbeats 4000000
/-! DLQ: a lambda handed to a def that calls it, where no repr is under way; try .. except, the exception kept. -/
namespace Dl
open PySem PySem.W L2 PyProof.Rows
abbrev lamQ (X : Cx) : Str := X.env.qual ++ "<lambda>"
/-- the def's context that got the lambda -/
abbrev gotX (X : Cx) (Ng : List Str) (qg : Str) (sg : Scope) (g : Addr) (cdg : Value) (s : Shared) (H : Hp) (Eg : XK) : Cx := cxOf (L2.CX X.prog X.w) X.prog X.w X.K X.mg X.base Ng qg sg g cdg X.A X.stack s H Eg
section
variable {X : Cx}
theorem act_g {pins : List (Addr × Obj)} {σ : L2.St} {H : Hp} {s : Shared} {Eg E' : XK} {Ng : List Str} {qg a : Str} {sg scope : Scope} {g f cc : Addr} {cdg pm ct : Value} {pr : Arguments} {body : Expr} {k i : Nat} {pn : List (Addr × Obj)} {xe : Value → Shared → Prop} {Wx : WX} {tb : TE} {p1 p2 : Pos}
    (J0 : Inv X pins σ H s) (ls : LamX.LamS X.env.scope scope) (fo : s.heap.get? f = some (kla_obj "<lambda>" (lamQ X) pr body scope (cloFrom X.env.cells scope.names []) pm cc ct)) (fH : H f = none) (fS : f ∉ frs X.stack)
    (bd : bindArgs (kla_fn "<lambda>" (lamQ X) pr body scope (cloFrom X.env.cells scope.names []) pm (.ref cc) ct) ⟨[], []⟩ = pure [])
    (ta : Takes ((gotX X Ng qg sg g cdg s H Eg).tr pn xe) Wx) (tw : ∀ cls d σ' H', E' cls d H' → Wx cls d σ' H') (rm : Room (k + 1) (X.A.deeper (envOfC qg sg s.heap.objs.size g cdg))) (gd : X.A.guards = some [])
    (hb : ∀ (A : Around) (out : List PySem.Env) (s1 : Shared) (H1 : Hp), Room k (A.deeper (LamX.lamEnv X scope s1.heap.objs.size f cc)) → A.guards = some [] → PE (LamX.lamCx X A out s1 H1 E' scope f cc) body tb)
    (hN : Ng[i]? = some a) (hv : Vis sg a) (hd : (a == ("__debug__" : Str)) = false) (hcd : (a == ("__classdict__" : Str)) = false) :
    PE ((gotX X Ng qg sg g cdg s H Eg).tr pn xe) (.Call (.Name a p1) [] [] p2) (fun σZ HZ Q => σZ[i]? = some (some (.ref f)) ∧ HZ cc = some (LamX.CodeO cc (lamQ X)) ∧ tb σ HZ Q) := by
  constructor
  intro pz sz σz Hz Q JZ ⟨q1, q2, q3⟩
  have nm := (pe_var (X := (gotX X Ng qg sg g cdg s H Eg).tr pn xe) (pos := p1) hN hv hd hcd).run pz sz σz Hz (fun v H1 => v = .ref f ∧ H1 = Hz) JZ ⟨.ref f, q1, rfl, rfl⟩
  refine wpAny_Call_Name_kw (thn nm fun u z ⟨v, Hv, Jv, rv, ev, eH⟩ => ?_)
  subst ev eH
  obtain rfl : u = Value.ref f := rv
  have fz := Jv.base.keep f _ fo fH fS (fun y => nomatch (show f ∈ ([] : List Addr) from y))
  refine callWith_F0 ⟨_, _, _, _, fz⟩ ?_
  obtain ⟨⟨oc, vs, tk, c1, c2, c3⟩, _, _⟩ := Jv.hok cc _ q2
  have back : Passes (L2.CX X.prog X.w) ((gotX X Ng qg sg g cdg s H Eg).tr pn xe) E' := passes_call ta tw
  have go : codeAny (model X.prog X.w) (X.A.deeper (envOfC qg sg s.heap.objs.size g cdg)) (.call (.ref f) ⟨[], []⟩) (CR (L2.CX X.prog X.w) (envOfC qg sg s.heap.objs.size g cdg :: X.stack) X.prog X.w Hv z Q E') z := by
    refine kla_callFunE rm.depth fz rfl ls.co ls.gen rfl ⟨cc, oc, vs, tk, rfl, c1, c2, c3⟩ ?_
    rw [bd]
    refine wpAny_pure (wpAny_newFunctionEnv (fun y m => (ls.own y m).2) (fun y m => absurd m (by simp)) (fun hh n1 n2 => ⟨Jv.nolimit.fresh _ n2, ?_⟩) ls.kind)
    have keep : ∀ b o, z.heap.get? b = some o → hh.get? b = some o := fun b o m => n2.extBut b o (Nat.ne_of_lt (Heap.lt_size m)) (Heap.get?_push_of_some _ m)
    have JL := LamX.lam_start2 (E := E') (f := f) (c' := cc) (tk := z.toks + ([] : List (Str × Value)).length) J0 ls Jv.env0 rm.hd Jv.base n1 keep
    refine kla_codeExpr (wpAny_mono ((hb _ _ z Hv (rm.deeper _) gd).run [] _ _ Hv Q JL q3) (fun v z2 hq => ?_) fun _ _ hq => hq)
    obtain ⟨w', H2, J2, r2, q⟩ := hq
    exact ⟨w', H2, J2.os, J2.bare, J2.base, J2.hok, r2, q⟩
  refine wpAny_call (codeAny_mono go fun r z2 hq => ?_)
  cases r with
  | error e => exact back pz σz Hv z e z2 Jv hq
  | ok fl => cases fl with
    | ret u => exact Jv.after hq
    | next => exact hq.elim
    | brk => exact hq.elim
    | cont => exact hq.elim
/-- the lambda made: what the heap is then -/
theorem lam_mk {pins : List (Addr × Obj)} {σ : L2.St} {H : Hp} {s : Shared} {TT : List (Addr × Str)} {co tb : Addr} {pr : Arguments} {body : Expr} {scope : Scope} {pos : Pos} {E1 : Value → Shared → Prop} {Q : Value → Shared → Prop} (J : Inv X pins σ H s) (tbb : LamX.TabB X.base X.mg co tb) (hco : X.env.code = .ref co)
    (mem : (tb, lamQ X) ∈ TT) (uni : ∀ q ∈ TT, q.1 = tb → q.2 = lamQ X) (tabs : LamX.Tabs TT H) (nodef : defaultsOf pr X.env = ([], [])) (ls : LamX.LamS X.env.scope scope)
    (h : ∀ (f cc : Addr) (pm ct : Value) (H1 : Hp) (z : Shared), Inv X pins σ H1 z → LamX.Tabs TT H1 → (∀ b o, H b = some o → NotT o → H1 b = some o) → (∀ b, H b ≠ none → H1 b ≠ none) →
      z.heap.get? f = some (kla_obj "<lambda>" (lamQ X) pr body scope (cloFrom X.env.cells scope.names []) pm cc ct) → H1 f = none → f ∉ frs X.stack → H1 cc = some (LamX.CodeO cc (lamQ X)) → Q (.ref f) z) :
    wpAny (model X.prog X.w) X.A (eval (.Lambda pr body scope pos) X.env) Q E1 s := by
  obtain ⟨row, rowH, rowT, rowA⟩ := tabs _ mem
  have away : ∀ f, s.heap.objs.size ≤ f → f ∉ frs X.stack := by
    intro f hf z
    rcases List.mem_cons.mp (J.stkSub _ z) with q | q
    · exact Nat.lt_irrefl _ (Nat.lt_of_lt_of_le (q ▸ J.lt) hf)
    · exact J.nofs hf q
  have rowS : s.heap.get? tb = some { cls := .none, data := .fields row } := J.hok tb _ rowH
  have clo := closure_ok (ls.has J.ok)
  refine kla_eval nodef ?_
  cases hit : codeAmong pos row.toList with
  | some cv =>
    obtain ⟨cc, rfl, known⟩ := rowA pos cv hit
    refine kla_makeFunctionHit (mg := X.mg) (c := co) (P := tb) (ps := row) clo J.ok.glob (J.mod.glob.keeps J.bk) hco (tbb.code.keeps J.bk) rowS rowT hit (tbb.bm.keeps J.bk) fun ct h' tk ext sz => ?_
    have J1 : Inv X pins σ H { s with heap := h'.push (kla_obj "<lambda>" (lamQ X) pr body scope (cloFrom X.env.cells scope.names []) ((X.mg "__name__").getD .none) cc ct), toks := tk } := J.kept fun b o m => Heap.get?_push_of_some _ (ext b o m)
    exact h _ cc _ ct H _ J1 tabs (fun _ _ m _ => m) (fun _ m => m) (Heap.get?_push_size _ rfl) (J.hok.fresh sz) (away _ sz) known
  | none =>
    refine kla_makeFunction (mg := X.mg) (c := co) (P := tb) (ps := row) clo J.ok.glob (J.mod.glob.keeps J.bk) hco (tbb.code.keeps J.bk) rowS rowT hit tbb.gP (tbb.bm.keeps J.bk) fun cc ct h' tk ext low up rec tabn => ?_
    obtain ⟨c2, oc, vs, t, e2, o1, o2, o3⟩ := rec
    cases e2
    have big : s.heap.objs.size ≤ h'.objs.size := Nat.le_trans low (Nat.le_of_lt up)
    have newC : H cc = none := J.hok.fresh low
    have apart : tb ≠ cc := ne_of_none rowH newC
    have J1 := LamX.inv_table (q := lamQ X) (t' := tk) (more := #[rawInt pos.line, rawInt pos.col, .ref cc]) (h' := h'.push (kla_obj "<lambda>" (lamQ X) pr body scope (cloFrom X.env.cells scope.names []) ((X.mg "__name__").getD .none) cc ct)) J rowH
      (fun b o n m => Heap.get?_push_of_some _ (ext b o n m)) (Heap.get?_push_of_some _ tabn) low ⟨oc, vs, t, Heap.get?_push_of_some _ o1, o2, o3⟩
    have old : ∀ b o, H b = some o → NotT o → upd (upd H tb (.tbl (row ++ #[rawInt pos.line, rawInt pos.col, .ref cc]))) cc (LamX.CodeO cc (lamQ X)) b = some o := fun b o m n => by
      have b1 : b ≠ cc := ne_of_none m newC
      have b2 : b ≠ tb := fun z => n row (by rw [z, rowH] at m; cases m; rfl)
      rw [upd_ne b1, upd_ne b2]; exact m
    refine h _ cc _ ct _ _ J1 (fun q hq => ?_) old (fun b m => ?_) (Heap.get?_push_size _ rfl) ?_ (away _ big) upd_same
    · by_cases hb : q.1 = tb
      · rw [uni q hq hb, hb]
        have lst : (row ++ #[rawInt pos.line, rawInt pos.col, .ref cc]).toList = row.toList ++ [rawInt pos.line, rawInt pos.col, .ref cc] := by simp
        refine ⟨_, by rw [upd_ne apart, upd_same], by rw [lst]; exact TriplesOk_snoc _ _ _ _ rowT, fun p' cv hcv => ?_⟩
        rw [lst] at hcv
        rcases LamX.among_app _ rowT hcv with z | z
        · obtain ⟨c0, e1, e2⟩ := rowA p' cv z
          exact ⟨c0, e1, old _ _ e2 LamX.codeO_ne⟩
        · exact ⟨cc, z, upd_same⟩
      · obtain ⟨row', a1, a2, a3⟩ := tabs q hq
        refine ⟨row', by rw [upd_ne (ne_of_none a1 newC), upd_ne hb]; exact a1, a2, fun p' cv hcv => ?_⟩
        obtain ⟨c0, e1, e2⟩ := a3 p' cv hcv
        exact ⟨c0, e1, old _ _ e2 LamX.codeO_ne⟩
    · by_cases b1 : b = cc
      · rw [b1, upd_same]; simp
      · rw [upd_ne b1]
        by_cases b2 : b = tb
        · rw [b2, upd_same]; simp
        · rw [upd_ne b2]; exact m
    · rw [upd_ne (Nat.ne_of_gt up), upd_ne (Nat.ne_of_gt (Nat.lt_of_lt_of_le (Heap.lt_size rowS) big))]
      exact J.hok.fresh big
end
/-! ### a def with a thunk: mAsk -/
/-- ask(), r what comes of it -/
def mAsk (i : Nat) (r : R D) : M D := fun env => match env[i]? with
  | some .fu => r.map fun d => (d, env)
  | _ => .bad
/-- in the context X the name a calls the thunk -/
def AskOk (X : Cx) (W : Wd) (B0 : Bs) (a : Str) (i : Nat) (r : R D) : Prop := ∀ (B : Bs) (pn : List (Addr × Obj)) (xe : Value → Shared → Prop) (Wx : WX) (E' : XK) (p1 p2 : Pos), B.T = B0.T → B.A = [] → PStep W B0.A B0.F B0.H B.F B.H → Takes (X.tr pn xe) Wx → (∀ cls d σ' H', E' cls d H' → Wx cls d σ' H') → PE (X.tr pn xe) (.Call (.Name a p1) [] [] p2) (tD W B E' (mAsk i r))
/-- the plain slots alone -/
def pures (env : Ev) : Ev := env.map fun
  | .pu d => .pu d
  | _ => .no
theorem pures_own {env : Ev} {i : Nat} : ¬ isOwn (pures env)[i]? := fun o => by
  unfold pures at o
  rw [List.getElem?_map] at o
  cases e : env[i]? with
  | none => rw [e] at o; exact o
  | some s => rw [e] at o; cases s <;> exact o
theorem Ag.pures {W : Wd} {B : Bs} {F H : Hp} {σ : L2.St} {env : Ev} (g : Ag W B F H σ env) : Ag W ⟨F, H, [], 0⟩ F H σ (Dl.pures env) where
  len := by unfold Dl.pures; rw [List.length_map]; exact g.len
  sl := fun i v s h1 h2 => by
    unfold Dl.pures at h2
    rw [List.getElem?_map] at h2
    cases e : env[i]? with
    | none => rw [e] at h2; cases h2
    | some t =>
      rw [e] at h2
      cases h2
      cases t with
      | pu d => exact g.sl i v _ h1 e
      | _ => trivial
  inj := fun i j _ o => absurd o pures_own
  bs := PStep.refl g.sub g.tabs
  fa := fun a h => nomatch h
theorem tD_any {W : Wd} {E : XK} {X : Cx} {e : Expr} {m : M D} (h : ∀ B, PE X e (tD W B E m)) : PE X e (fun σ H Q => ∃ F, tD W ⟨F, H, [], 0⟩ E m σ H Q) := ⟨fun pins s σ H Q I ⟨F, w⟩ => (h ⟨F, H, [], 0⟩).run pins s σ H Q I w⟩
/-- the call of a def with a lambda: n slots, mH its body by what comes of the lambda, mb the lambda's own -/
def mLam (n : Nat) (mH : R D → MS) (mb : M D) : M D := fun env => match mH ((mb (pures env)).map (·.1)) (.fu :: List.replicate (n - 1) .no) with
  | .ok (.rt d, _) => .ok (d, env)
  | .ok (.nx, _) => .ok (.non, env)
  | .exc x => .exc x
  | _ => .bad
section
variable {X : Cx} {W : Wd} {B : Bs} {E : XK}
theorem ask_ok {B0 : Bs} {pins : List (Addr × Obj)} {σ : L2.St} {F H : Hp} {s : Shared} {env : Ev} {Eg : XK} {Ng : List Str} {qg a : Str} {sg scope : Scope} {g f cc : Addr} {cdg pm ct : Value} {pr : Arguments} {body : Expr} {k : Nat} {mb : M D}
    (J0 : Inv X pins σ H s) (ag : Ag W B0 F H σ env) (ls : LamX.LamS X.env.scope scope) (fo : s.heap.get? f = some (kla_obj "<lambda>" (lamQ X) pr body scope (cloFrom X.env.cells scope.names []) pm cc ct)) (fH : H f = none) (fS : f ∉ frs X.stack) (fc : H cc = some (LamX.CodeO cc (lamQ X)))
    (bd : bindArgs (kla_fn "<lambda>" (lamQ X) pr body scope (cloFrom X.env.cells scope.names []) pm (.ref cc) ct) ⟨[], []⟩ = pure []) (rm : Room (k + 1) (X.A.deeper (envOfC qg sg s.heap.objs.size g cdg))) (gd : X.A.guards = some [])
    (hb : ∀ (A : Around) (out : List PySem.Env) (s1 : Shared) (H1 : Hp) (E' : XK) (B : Bs), Room k (A.deeper (LamX.lamEnv X scope s1.heap.objs.size f cc)) → A.guards = some [] → PE (LamX.lamCx X A out s1 H1 E' scope f cc) body (tD W B E' mb))
    (hN : Ng[0]? = some a) (hv : Vis sg a) (hd : (a == ("__debug__" : Str)) = false) (hcd : (a == ("__classdict__" : Str)) = false) : AskOk (gotX X Ng qg sg g cdg s H Eg) W ⟨F, H, [], f⟩ a 0 ((mb (pures env)).map (·.1)) := by
  intro B' pn xe Wx E' p1 p2 hT hA p0 tk tw
  refine PE.imp (act_g J0 ls fo fH fS bd tk tw rm gd (fun A out s1 H1 r1 g1 => tD_any fun B => hb A out s1 H1 E' B r1 g1) hN hv hd hcd) fun σZ HZ Q ⟨FZ, envZ, gZ, h⟩ => ?_
  unfold mAsk at h
  split at h
  · rename_i e0
    have hl := get_lt e0
    have hs : σZ[0]? = some (σZ[0]'(by rw [gZ.len]; exact hl)) := List.getElem?_eq_getElem _
    have sl : σZ[0]'(by rw [gZ.len]; exact hl) = some (.ref f) := by
      have sf : σZ[0]'(by rw [gZ.len]; exact hl) = some (.ref B'.T) := gZ.sl 0 _ _ hs e0
      rw [show B'.T = f from hT] at sf; exact sf
    rw [sl] at hs
    have bsZ := gZ.bs
    rw [hA] at bsZ
    have st : PStep W [] F H FZ HZ := p0.trans0 bsZ
    refine ⟨hs, st.old _ _ fc (by simp) LamX.codeO_ne, FZ, FZ, pures env, (ag.step st).pures, ?_⟩
    cases q : mb (pures env) with
    | bad => rw [q] at h; exact h
    | exc x =>
      rw [q] at h
      exact fun F' H' dd p xr => h F' H' dd (gZ.bs.trans0 p) xr
    | ok q1 =>
      obtain ⟨d, env1⟩ := q1
      rw [q] at h
      intro F' H' v l g1 r
      have p : PStep W [] FZ HZ F' H' := g1.bs
      exact h F' H' v p.stp (gZ.step p) r
  · exact h.elim
/-- x(lambda: body) -/
theorem pd_lam {x a : Str} {g co tb : Addr} {k : Nat} {pg pr : Arguments} {bg : List Stmt} {sg scope : Scope} {dV kV doc pm cdv ct oc : Value} {an od : Option Addr} {osl : Array (Option Value)} {Ng : List Str} {body : Expr} {mH : R D → MS} {mb : M D} {p lpos pos : Pos}
    (hg : Gl X x) (hm : X.mg x = some (.ref g)) (hk : keepIn X.K (.ref g) = true) (lk : X.K.lookup g = some ⟨oc, od, .func (fnOf x x pg bg sg dV kV doc pm an cdv ct), osl⟩) (hcg : codeIn X.K cdv x = true) (hbd : Binds X.K (fnOf x x pg bg sg dV kV doc pm an cdv ct) [a] []) (Sg : FnScope Ng [a] sg) (hN : Ng[0]? = some a) (hv : Vis sg a)
    (hG : ∀ (s : Shared) (H : Hp) (B : Bs) (Eg : XK) (r : R D), Room (k + 1) (X.A.deeper (envOfC x sg s.heap.objs.size g cdv)) → AskOk (gotX X Ng x sg g cdv s H Eg) W B a 0 r → PSs (gotX X Ng x sg g cdv s H Eg) bg (tS W B Eg false (mH r)))
    (tbb : LamX.TabB X.base X.mg co tb) (hco : X.env.code = .ref co) (mem : (tb, lamQ X) ∈ W.TT) (uni : ∀ q ∈ W.TT, q.1 = tb → q.2 = lamQ X) (rm : Room (k + 2) X.A) (gd : X.A.guards = some []) (hx : Passes (L2.CX X.prog X.w) X E) (ls : LamX.LamS X.env.scope scope) (nodef : defaultsOf pr X.env = ([], []))
    (bd : ∀ (q : Str) (cl : List (Str × Addr)) (pm cv ctv : Value), bindArgs (kla_fn "<lambda>" q pr body scope cl pm cv ctv) ⟨[], []⟩ = pure [])
    (hb : ∀ (A : Around) (out : List PySem.Env) (s1 : Shared) (H1 : Hp) (E' : XK) (B : Bs) (f cc : Addr), Room k (A.deeper (LamX.lamEnv X scope s1.heap.objs.size f cc)) → A.guards = some [] → PE (LamX.lamCx X A out s1 H1 E' scope f cc) body (tD W B E' mb))
    (hdb : (x == ("__debug__" : Str)) = false) (hd : (a == ("__debug__" : Str)) = false) (hcd : (a == ("__classdict__" : Str)) = false) :
    PE X (.Call (.Name x p) [.Lambda pr body scope lpos] [] pos) (tD W B E (mLam Ng.length mH mb)) := by
  constructor
  intro pins s σ H Q J ⟨F, env, ag, w⟩
  refine wpAny_Call_Name_kw (ld_glob J hg hm ?_ hdb)
  refine callWith_K (h₀ := X.base) J.ok.mod.kin hk ?_ (starEach_of rfl) (pl_of rfl)
  refine Calls.spliced_cons (lam_mk J tbb hco mem uni ag.tabs.tb nodef ls fun f cc pm' ct' H1 z J1 tabs old trk fo fH fS fc => ?_)
  refine Calls.spliced_nil ⟨J1.kIn, ?_⟩
  have p1 : PStep W [] F H F H1 := ⟨Le.refl _, fun b o m => old _ _ (ag.sub _ _ m) (fun ps e => ag.tabs.nt b ps (by rw [m, e])), fun b o m _ n => old b o m n, fun _ _ => rfl, trk, ⟨tabs, ag.tabs.nt⟩⟩
  have ag1 := ag.step p1
  have hNl : 1 ≤ Ng.length := by have := get_lt hN; omega
  have run : codeAny (model X.prog X.w) X.A (.call (.ref g) ⟨[.ref f], []⟩) (CR (L2.CX X.prog X.w) X.stack X.prog X.w H1 z Q E) z := by
    refine LamX.run_ofS (N := Ng) (ps := [a]) (us := [.ref f]) (vs := [.ref f]) lk hcg Sg rm J1.env0 (hbd z [.ref f] J1.kIn rfl) (.cons rfl .nil) rfl fun rm' => ?_
    refine ⟨_, hG z H1 ⟨F, H1, [], f⟩ E ((mb (pures env)).map (·.1)) rm' (ask_ok J1 ag1 ls fo fH fS fc (bd _ _ _ _ _) rm' gd (fun A out s1 H2 E' B r1 g1 => hb A out s1 H2 E' B f cc r1 g1) hN hv hd hcd), F, .fu :: List.replicate (Ng.length - 1) .no, ?_, ?_⟩
    · refine ⟨by simp [L2.start], fun i v sl h1 h2 => ?_, fun i j _ o => ?_, PStep.refl ag1.sub ag1.tabs, fun b m => nomatch m⟩
      · cases i with
        | zero =>
          simp only [List.getElem?_cons_zero] at h2
          cases h2
          simp [L2.start] at h1
          exact h1.symm
        | succ i =>
          rw [List.getElem?_cons_succ] at h2
          have := List.mem_of_getElem? h2
          rw [List.mem_replicate] at this
          rw [this.2]
          trivial
      · cases i with
        | zero => exact o.elim
        | succ i =>
          rw [List.getElem?_cons_succ] at o
          cases e : (List.replicate (Ng.length - 1) Sl.no)[i]? with
          | none => rw [e] at o; exact o.elim
          | some t =>
            have := List.mem_of_getElem? e
            rw [List.mem_replicate] at this
            rw [e, this.2] at o
            exact o.elim
    · unfold mLam at w
      have fin : ∀ F' H' v d, PStep W [] F H1 F' H' → Rep W F' v d → Want W B E F H env σ Q (.ok (d, env)) → Q v H' := fun F' H' v d pp r w => w F' H' v (p1.trans0 pp).stp (ag1.step pp) r
      cases q : mH ((mb (pures env)).map (·.1)) (.fu :: List.replicate (Ng.length - 1) .no) with
      | bad => rw [q] at w; exact w
      | exc x =>
        rw [q] at w
        exact fun F' H' dd pp xr => w F' H' dd (ag1.bs.trans0 pp) xr
      | ok q1 =>
        obtain ⟨fl, env1⟩ := q1
        rw [q] at w
        cases fl with
        | nx => exact fun F' H' σ' _ g' => fin F' H' .non .non g'.bs rfl w
        | rt d => exact fun F' H' σ' v _ g' r => fin F' H' v d g'.bs r w
        | bk => exact w.elim
        | ct => exact w.elim
  refine wpAny_call (codeAny_mono run fun r z2 hq => ?_)
  cases r with
  | error e => exact hx pins σ H1 z e z2 J1 hq
  | ok fl => cases fl with
    | ret u => exact J1.after hq
    | next => exact hq.elim
    | brk => exact hq.elim
    | cont => exact hq.elim
end
end Dl

set_option maxHeartbeats 4000000
/-! DLR: try .. except C as n, the exception kept. -/
namespace Dl
open PySem PySem.W L2 PyProof.Rows
theorem takes_ln {X : Cx} {Wx : WX} (t : Takes X Wx) : Takes X (fun cls d σ H => σ.length = X.N.length → Wx cls d σ H) := fun u z ⟨a, B, sI, pins, σ, H, cls, d, e, I, nb, up, sky, na, os, ag, w⟩ => t u z ⟨a, B, sI, pins, σ, H, cls, d, e, I, nb, up, sky, na, os, ag, w I.len⟩
section
variable {X : Cx} {W : Wd} {B : Bs} {E : XK} {ob : Bool} {m ms : MS}
theorem Ag.setNo {F H : Hp} {σ : L2.St} {env : Ev} {i : Nat} {v : Option V} (g : Ag W B F H σ env) : Ag W B F H (σ.set i v) (env.set i .no) where
  len := by rw [List.length_set, List.length_set]; exact g.len
  sl := fun j u s h1 h2 => by
    by_cases q : i = j
    · subst q
      have hl := get_lt h2
      rw [List.length_set] at hl
      rw [List.getElem?_set_self hl] at h2
      cases h2
      trivial
    · rw [List.getElem?_set_ne q] at h1 h2
      exact g.sl j u s h1 h2
  inj := fun j k hjk oj ok => by
    have nj : ∀ j, isOwn (env.set i Sl.no)[j]? → i ≠ j := fun j o q => by
      subst q
      by_cases hl : i < env.length
      · rw [List.getElem?_set_self hl] at o; exact o
      · rw [List.getElem?_eq_none (by rw [List.length_set]; omega)] at o; exact o
    have h1 := nj j oj
    have h2 := nj k ok
    rw [List.getElem?_set_ne h1] at oj ⊢
    rw [List.getElem?_set_ne h2] at ok ⊢
    exact g.inj j k hjk oj ok
  bs := g.bs
  fa := g.fa
def tryEnd (i : Nat) : R (Fl × Ev) → R (Fl × Ev)
  | .ok (.nx, env) => .ok (.nx, env.set i .no)
  | .ok (.bk, env) => .ok (.bk, env.set i .no)
  | .ok (.ct, env) => .ok (.ct, env.set i .no)
  | .ok (.rt d, env) => .ok (.rt d, env)
  | _ => .bad
def noOwn : Sl → Bool
  | .ow _ => false
  | .pa _ _ => false
  | _ => true
/-- n slots, i the exception's name; ct: which classes are caught; no slot owns anything; behind an exception nothing of the slots is known -/
def sTry (n i : Nat) (ct : List (Nat × Bool)) (m ms : MS) : MS := fun env => if env.all noOwn then (match m env with
  | .exc x => (match ct.lookup x.c with
    | some true => tryEnd i (ms ((List.replicate n .no).set i (.pu (.exc x.c x.ns x.ds))))
    | some false => .exc x
    | none => .bad)
  | r => r) else .bad
theorem noOwn_of {env : Ev} (h : env.all noOwn = true) (i : Nat) : ¬ isOwn env[i]? := fun o => by
  cases e : env[i]? with
  | none => rw [e] at o; exact o
  | some s =>
    rw [e] at o
    rw [List.all_eq_true] at h
    have := h s (List.mem_of_getElem? e)
    cases s <;> first | exact o | cases this
/-- the body's beginning told anew -/
theorem Ag.rebase {F H : Hp} {σ : L2.St} {env : Ev} (g : Ag W B F H σ env) (h : env.all noOwn = true) : Ag W ⟨F, H, [], B.T⟩ F H σ env where
  len := g.len
  sl := fun i v s h1 h2 => by
    have no := noOwn_of h i
    rw [h2] at no
    cases s with
    | no => trivial
    | pu d => exact g.sl i v _ h1 h2
    | fu => exact g.sl i v _ h1 h2
    | ow d => exact absurd trivial no
    | pa k d => exact absurd trivial no
  inj := fun i j _ o => absurd o (noOwn_of h i)
  bs := PStep.refl g.sub g.tabs
  fa := fun a m => nomatch m
theorem Ag.unbase {F0 H0 F H : Hp} {σ : L2.St} {env : Ev} (p : PStep W B.A B.F B.H F0 H0) (fa : ∀ a ∈ B.A, B.F a = none) (g : Ag W ⟨F0, H0, [], B.T⟩ F H σ env) : Ag W B F H σ env where
  len := g.len
  sl := fun i v s h1 h2 => by
    have := g.sl i v s h1 h2
    cases s with
    | no => trivial
    | pu d => exact this
    | fu => exact this
    | ow d => obtain ⟨a, e, n, r⟩ := this; exact ⟨a, e, p.free n, r⟩
    | pa k d => obtain ⟨a, e, n, r⟩ := this; cases n
  inj := g.inj
  bs := p.trans0 g.bs
  fa := fa
theorem look_mem {β : Type} {k : Nat} {b : β} : ∀ {l : List (Nat × β)}, l.lookup k = some b → (k, b) ∈ l
  | (a, c) :: l, h => by
    simp only [List.lookup] at h
    split at h
    · rename_i e
      have : k = a := by simpa using e
      cases h; subst this; simp
    · exact List.mem_cons_of_mem _ (look_mem h)
theorem pds_try {x n : Str} {c : Value} {i : Nat} {ct : List (Nat × Bool)} {body suite : List Stmt} {b₀ : Stmt} {np pos pos' : Pos} (hs : X.stack = X.env :: X.outer) (hf : X.env.frame = some X.env.locals) (hN : X.N.Nodup) (hi : X.N[i]? = some n) (kn : X.env.kindOf n = some .local) (hc : Names X x c) (hex : X.ex = []) (tk : Takes X (fun cls d _ H => E cls d H))
    (hct : ∀ q ∈ ct, exmOne X.K (.ref (W.cl q.1)) c = some q.2)
    (hb : ∀ (B' : Bs) (E' : XK) (pn : List (Addr × Obj)) (xe : Value → Shared → Prop), B'.T = B.T → B'.A = [] → PStep W B.A B.F B.H B'.F B'.H → Takes (X.tr pn xe) (fun cls d _ H => E' cls d H) → PassesOwn (model X.prog X.w) X.A X.env xe → PSs (X.tr pn xe) body (tS W B' E' ob m))
    (hsu : ∀ (a : Addr) (pn : List (Addr × Obj)) (B : Bs), PSs (X.suite a pn) (b₀ :: suite) (tS W B (fun _ _ _ => False) ob ms)) :
    PS X (.Try body [.ExceptHandler (some (.Name x np)) (some n) (b₀ :: suite) pos'] [] [] pos) (tS W B E ob (sTry X.N.length i ct m ms)) := by
  refine PS.imp (Wp.ps_keep (i := i) (c := c) (ts := fun Z σ H => ∃ B' : Bs, tS W B' (fun _ _ _ => False) ob ms Z σ H) (tb := fun Wx Z σ H => ∃ B' : Bs, B'.T = B.T ∧ B'.A = [] ∧ PStep W B.A B.F B.H B'.F B'.H ∧ tS W B' (fun cls d H => ∀ σ : L2.St, σ.length = X.N.length → Wx cls d σ H) ob m Z σ H) hs hf hN hi kn hc hex tk
    (fun Wx pn xe t1 t2 => ⟨fun pins s σ H D I ⟨B', b1, b2, b3, w⟩ => (hb B' _ pn xe b1 b2 b3 (Takes.imp (takes_ln t1) fun cls d σ H h l => h σ l) t2).run pins s σ H D I w⟩) (fun a pn => ⟨fun pins s σ H D I ⟨B', w⟩ => (hsu a pn B').run pins s σ H D I w⟩)) fun Z σ H ⟨F, env, ag, h⟩ => ?_
  unfold sTry at h
  by_cases ho : env.all noOwn = true
  case neg => rw [if_neg ho] at h; exact h.elim
  rw [if_pos ho] at h
  have un : ∀ {F' H' σ' env'}, Ag W ⟨F, H, [], B.T⟩ F' H' σ' env' → Ag W B F' H' σ' env' := fun g => g.unbase ag.bs ag.fa
  have rt : ∀ {F' H' v d}, PStep W [] F H F' H' → RetOk W ⟨F, H, [], B.T⟩ ob F' H' v d → RetOk W B ob F' H' v d := fun {F' H' v d} p r => by
    cases ob with
    | false => exact r
    | true => obtain ⟨a, e, n, r⟩ := r; exact ⟨a, e, ag.bs.free n, r⟩
  refine ⟨⟨F, H, [], B.T⟩, rfl, rfl, ag.bs, F, env, ag.rebase ho, ?_⟩
  cases q : m env with
  | bad => rw [q] at h; exact h
  | ok q1 =>
    rw [q] at h
    obtain ⟨fl, env1⟩ := q1
    cases fl with
    | nx => exact fun F' H' σ' l g => h F' H' σ' l (un g)
    | bk => exact fun F' H' σ' l g => h F' H' σ' l (un g)
    | ct => exact fun F' H' σ' l g => h F' H' σ' l (un g)
    | rt d => exact fun F' H' σ' v l g r => h F' H' σ' v l (un g) (rt g.bs r)
  | exc x0 =>
    rw [q] at h
    simp only at h
    intro F' H' dd p xr σ' hl
    have p : PStep W [] F H F' H' := p
    split at h
    · rename_i e
      refine ⟨true, hct _ (look_mem e), fun _ a na => ?_, fun z => nomatch z⟩
      obtain ⟨fvs, x1, x2, x3, x4⟩ := xr
      have nt : NotT (Wp.ExK (.ref (W.cl x0.c)) (some dd) a) := fun ps z => by unfold Wp.ExK at z; cases z
      have p2 := PStep.fz (W := W) (o := Wp.ExK (.ref (W.cl x0.c)) (some dd) a) p.sub p.tabs na nt
      have hil : i < X.N.length := get_lt hi
      refine ⟨⟨F, H, [], B.T⟩, _, _, (show Ag W ⟨F, H, [], B.T⟩ (upd F' a (Wp.ExK (.ref (W.cl x0.c)) (some dd) a)) (upd H' a (Wp.ExK (.ref (W.cl x0.c)) (some dd) a)) (σ'.set i (some (.ref a))) ((List.replicate X.N.length Sl.no).set i (.pu (.exc x0.c x0.ns x0.ds))) from ?_), ?_⟩
      · have g0 : Ag W ⟨F, H, [], B.T⟩ F' H' σ' (List.replicate X.N.length Sl.no) := by
          refine ⟨by simpa using hl, fun j v s h1 h2 => ?_, fun j k _ o => ?_, p, fun a m => nomatch m⟩
          · have := List.mem_of_getElem? h2
            rw [List.mem_replicate] at this
            rw [this.2]; trivial
          · cases e : (List.replicate X.N.length Sl.no)[j]? with
            | none => rw [e] at o; exact o.elim
            | some s =>
              have := List.mem_of_getElem? e
              rw [List.mem_replicate] at this
              rw [e, this.2] at o
              exact o.elim
        refine (g0.step p2).setP ?_
        exact ⟨a, dd, fvs, rfl, upd_same, p2.le _ _ x1, x2, x3, x4.le p2.le⟩
      · have lF : Le F (upd F' a (Wp.ExK (.ref (W.cl x0.c)) (some dd) a)) := p.le.trans p2.le
        unfold tryEnd at h
        cases q2 : ms ((List.replicate X.N.length Sl.no).set i (.pu (.exc x0.c x0.ns x0.ds))) with
        | bad => rw [q2] at h; exact h.elim
        | exc y => rw [q2] at h; exact h.elim
        | ok q3 =>
          obtain ⟨fl, env3⟩ := q3
          rw [q2] at h
          cases fl with
          | nx => exact fun F3 H3 σ3 l g => h F3 H3 _ (lF.trans l) (un g).setNo
          | bk => exact fun F3 H3 σ3 l g => h F3 H3 _ (lF.trans l) (un g).setNo
          | ct => exact fun F3 H3 σ3 l g => h F3 H3 _ (lF.trans l) (un g).setNo
          | rt d => exact fun F3 H3 σ3 v l g r => h F3 H3 σ3 v (lF.trans l) (un g) (rt g.bs r)
    · rename_i e
      exact ⟨false, hct _ (look_mem e), fun z => (nomatch z), fun _ => h F' H' dd (ag.bs.trans0 p) xr⟩
    · exact h.elim
end
end Dl

set_option maxHeartbeats 4000000
/-! DLS: defs called by positions, with defaults, by keywords. -/
namespace Dl
open PySem PySem.W L2 PyProof.Rows
section
variable {P : Program} {w : World} {K : Frag} {mg : Str → Option Value} {base : Heap} {k : Nat} {f : Addr} {fd : FuncData} {ps : List Str} {sp : Sp} {W : Wd} {o : Bool} {g : List Sl → RF}
theorem CalOk.imp {fv : Value} {ks : List Str} {sp sp' : Sp} (h : CalOk P w K mg base k fv ks sp) (m : ∀ vs H Q E, sp' vs H Q E → sp vs H Q E) : CalOk P w K mg base k fv ks sp' := fun A out s H us ws vs zs Q E hr gd e0 r rz hl h1 => h A out s H us ws vs zs Q E hr gd e0 r rz hl (m _ _ _ _ h1)
theorem CalOk.mono {fv : Value} {ks : List Str} {sp : Sp} {j : Nat} (h : CalOk P w K mg base k fv ks sp) (hj : k ≤ j) : CalOk P w K mg base j fv ks sp := fun A out s H us ws vs zs Q E hr gd e0 r rz hl h1 => h A out s H us ws vs zs Q E (hr.mono hj) gd e0 r rz hl h1
theorem in_of {A : Around} {out : List PySem.Env} {s : Shared} {H : Hp} (e0 : Env0 P w K mg base A out s H) : K.In s.heap := e0.mod.kin.keeps fun b o e => (e0.bs b o e).1
/-- every parameter by its position -/
theorem cal_plain (F : Wp.FnG P w K mg base k f fd ps sp) (hb : Binds K fd ps []) : CalOk P w K mg base k (.ref f) [] sp := fun A out s H us ws vs zs Q E hr gd e0 r rz hl h => by
  cases ws with
  | cons _ _ => cases hl
  | nil =>
    cases rz
    rw [List.append_nil] at h
    have lv := F.ln _ _ _ _ h
    have b := hb s us (in_of e0) (by rw [List.append_nil, ← r.length]; exact lv)
    rw [List.append_nil] at b
    exact F.go A out s H ⟨us, []⟩ us vs Q E hr gd e0 b r h
/-- the last parameters by their defaults -/
theorem cal_dflt {ds : List Value} {dvs : List V} (F : Wp.FnG P w K mg base k f fd ps sp) (hb : Binds K fd ps ds) (hd : Vals dvs ds) : CalOk P w K mg base k (.ref f) [] (fun vs H Q E => sp (vs ++ dvs) H Q E) := fun A out s H us ws vs zs Q E hr gd e0 r rz hl h => by
  cases ws with
  | cons _ _ => cases hl
  | nil =>
    cases rz
    rw [List.append_nil] at h
    have rr := r.append hd
    have lv := F.ln _ _ _ _ h
    have b := hb s us (in_of e0) (by rw [← rr.length]; exact lv)
    exact F.go A out s H ⟨us, []⟩ _ _ Q E hr gd e0 b rr h
theorem ArgsOk.pures {F H : Hp} : ∀ {vs : List V} {as : List Sl} {us : List V} {ds : List D}, ArgsOk W F H vs as → Reps W F us ds → ArgsOk W F H (vs ++ us) (as ++ ds.map .pu) ∧ adr (vs ++ us) (as ++ ds.map .pu) = adr vs as
  | [], [], us, ds, _, r => by
    simp only [List.nil_append]
    induction ds generalizing us with
    | nil => cases r; exact ⟨trivial, rfl⟩
    | cons d ds ih =>
      obtain ⟨v, q, rfl, h, h2⟩ := r
      obtain ⟨i1, i2⟩ := ih _ h2
      refine ⟨⟨h, i1⟩, ?_⟩
      have : adr (v :: q) (Sl.pu d :: ds.map .pu) = adr q (ds.map .pu) := by cases v <;> rfl
      simp only [List.map_cons]
      rw [this, i2]
  | v :: vs, .pu d :: as, us, ds, h, r => by
    obtain ⟨i1, i2⟩ := ArgsOk.pures h.2 r
    refine ⟨⟨h.1, i1⟩, ?_⟩
    have e1 : ∀ (vs : List V) (as : List Sl), adr (v :: vs) (Sl.pu d :: as) = adr vs as := fun vs as => by cases v <;> rfl
    simp only [List.cons_append]
    rw [e1, e1, i2]
  | v :: vs, .ow d :: as, us, ds, h, r => by
    obtain ⟨⟨a, rfl, fa, ow, na⟩, ht⟩ := h
    obtain ⟨i1, i2⟩ := ArgsOk.pures ht r
    refine ⟨⟨⟨a, rfl, fa, ow, fun z => na (by rw [← i2]; exact z)⟩, i1⟩, ?_⟩
    show a :: adr (vs ++ us) (as ++ ds.map .pu) = a :: adr vs as
    rw [i2]
  | v :: vs, .no :: as, us, ds, h, r => by simp [ArgsOk] at h
  | v :: vs, .fu :: as, us, ds, h, r => by simp [ArgsOk] at h
  | v :: vs, .pa _ _ :: as, us, ds, h, r => by simp [ArgsOk] at h
  | [], _ :: _, us, ds, h, r => by simp [ArgsOk] at h
  | _ :: _, [], us, ds, h, r => by simp [ArgsOk] at h
/-- .. over plain data -/
theorem cal_dfltT {ds : List Value} {dvs : List V} {dds : List D} (F : Wp.FnG P w K mg base k f fd ps (spT W o g)) (hb : Binds K fd ps ds) (hd : Vals dvs ds) (hr : ∀ F, Reps W F dvs dds) : CalOk P w K mg base k (.ref f) [] (spT W o (fun as => g (as ++ dds.map .pu))) :=
  (cal_dflt F hb hd).imp fun vs H Q E ⟨Fz, args, l, t, a, h⟩ => by
    obtain ⟨i1, i2⟩ := a.pures (hr Fz)
    refine ⟨Fz, args ++ dds.map .pu, l, t, i1, ?_⟩
    rw [i2]
    exact h
/-! ### keywords -/
def pick {α : Type} (l : List α) (ix : List Nat) : List α := ix.filterMap fun i => l[i]?
def isPu : Sl → Bool
  | .pu _ => true
  | _ => false
theorem ArgsOk.get {F H : Hp} : ∀ {vs : List V} {as : List Sl} {i : Nat} {d : D}, ArgsOk W F H vs as → as[i]? = some (.pu d) → ∃ v, vs[i]? = some v ∧ Rep W F v d
  | v :: vs, .pu d :: as, 0, _, h, e => by cases e; exact ⟨v, rfl, h.1⟩
  | v :: vs, .ow d :: as, 0, _, h, e => by cases e
  | v :: vs, .pu d :: as, i + 1, _, h, e => ArgsOk.get (i := i) h.2 e
  | v :: vs, .ow d :: as, i + 1, _, h, e => ArgsOk.get (i := i) h.2 e
  | v :: vs, .no :: as, _, _, h, e => by simp [ArgsOk] at h
  | v :: vs, .fu :: as, _, _, h, e => by simp [ArgsOk] at h
  | v :: vs, .pa _ _ :: as, _, _, h, e => by simp [ArgsOk] at h
  | [], _ :: _, _, _, h, e => by simp [ArgsOk] at h
  | _ :: _, [], _, _, h, e => by simp [ArgsOk] at h
  | [], [], _, _, h, e => by cases e
theorem pick_ok {F H : Hp} {vs : List V} {as : List Sl} (a : ArgsOk W F H vs as) : ∀ {ix : List Nat}, (∀ i ∈ ix, ∃ d, as[i]? = some (.pu d)) → ArgsOk W F H (pick vs ix) (pick as ix) ∧ adr (pick vs ix) (pick as ix) = []
  | [], _ => ⟨trivial, rfl⟩
  | i :: ix, h => by
    obtain ⟨d, hd⟩ := h i (by simp)
    obtain ⟨v, hv, r⟩ := a.get hd
    obtain ⟨i1, i2⟩ := pick_ok a (ix := ix) fun j hj => h j (by simp [hj])
    have e1 : pick vs (i :: ix) = v :: pick vs ix := by simp [pick, hv]
    have e2 : pick as (i :: ix) = .pu d :: pick as ix := by simp [pick, hd]
    rw [e1, e2]
    refine ⟨⟨r, i1⟩, ?_⟩
    have : adr (v :: pick vs ix) (Sl.pu d :: pick as ix) = adr (pick vs ix) (pick as ix) := by cases v <;> rfl
    rw [this, i2]
/-- the arguments in the parameters' order: dds the defaults; self, if it is owned, stays first -/
def kwG (g : List Sl → RF) (ix : List Nat) (dds : List D) (as : List Sl) : RF := match as with
  | .ow d :: r => (match ix with
    | 0 :: ix => if ix.all (fun i => match (Sl.ow d :: r ++ dds.map Sl.pu)[i]? with | some (.pu _) => true | _ => false) && r.all isPu then g (.ow d :: pick (Sl.ow d :: r ++ dds.map Sl.pu) ix) else .bad
    | _ => .bad)
  | _ => if ix.all (fun i => match (as ++ dds.map Sl.pu)[i]? with | some (.pu _) => true | _ => false) && as.all isPu then g (pick (as ++ dds.map Sl.pu) ix) else .bad
theorem adr_pu : ∀ {vs : List V} {as : List Sl}, as.all isPu = true → adr vs as = []
  | [], as, _ => by cases as <;> rfl
  | v :: vs, [], _ => by cases v <;> rfl
  | v :: vs, s :: as, h => by
    simp only [List.all_cons, Bool.and_eq_true] at h
    cases s with
    | pu d =>
      have : adr (v :: vs) (Sl.pu d :: as) = adr vs as := by cases v <;> rfl
      rw [this]
      exact adr_pu h.2
    | _ => cases h.1
theorem all_pick {l : List Sl} {ix : List Nat} (h : ix.all (fun i => match l[i]? with | some (.pu _) => true | _ => false) = true) : ∀ i ∈ ix, ∃ d, l[i]? = some (.pu d) := fun i hi => by
  rw [List.all_eq_true] at h
  have := h i hi
  split at this
  · exact ⟨_, ‹_›⟩
  · cases this
theorem kwG_ok {F H : Hp} {xs dvs : List V} {args : List Sl} {ix : List Nat} {dds : List D} (a : ArgsOk W F H xs args) (rd : Reps W F dvs dds) : kwG g ix dds args = .bad ∨ ∃ args', kwG g ix dds args = g args' ∧ ArgsOk W F H (pick (xs ++ dvs) ix) args' ∧ adr (pick (xs ++ dvs) ix) args' = adr xs args := by
  obtain ⟨i1, i2⟩ := a.pures rd
  unfold kwG
  split
  · rename_i d r
    cases xs with
    | nil => simp [ArgsOk] at a
    | cons v xs =>
      obtain ⟨⟨p, rfl, fp, ow, np⟩, at'⟩ := a
      split
      · rename_i ix'
        split
        · rename_i hc
          rw [Bool.and_eq_true] at hc
          right
          refine ⟨_, rfl, ?_⟩
          obtain ⟨k1, k2⟩ := pick_ok i1 (all_pick hc.1)
          have e1 : pick (.ref p :: xs ++ dvs) (0 :: ix') = .ref p :: pick (.ref p :: xs ++ dvs) ix' := by simp [pick]
          rw [e1]
          refine ⟨⟨⟨p, rfl, fp, ow, by rw [k2]; simp⟩, k1⟩, ?_⟩
          show p :: adr _ _ = p :: adr _ _
          rw [k2, adr_pu hc.2]
        · exact .inl rfl
      · exact .inl rfl
  · split
    · rename_i hc
      rw [Bool.and_eq_true] at hc
      right
      refine ⟨_, rfl, ?_⟩
      obtain ⟨k1, k2⟩ := pick_ok i1 (all_pick hc.1)
      exact ⟨k1, by rw [k2, adr_pu hc.2]⟩
    · exact .inl rfl
theorem cal_kw {ks : List Str} {n : Nat} {gU : List Value → List Value → List Value} {gV : List V → List V → List V} {ix : List Nat} {dvs : List V} {dds : List D} (F : Wp.FnG P w K mg base k f fd ps (spT W o g)) (hb : KBn K fd ps n ks gU gV) (hg : ∀ vs zs : List V, vs.length = n → zs.length = ks.length → gV vs zs = pick (vs ++ zs ++ dvs) ix) (hr : ∀ F, Reps W F dvs dds) :
    CalOk P w K mg base k (.ref f) ks (spT W o (fun as => if as.length = n + ks.length then kwG g ix dds as else .bad)) := fun A out s H us ws vs zs Q E hrm gd e0 r rz hl h => by
  have lz : zs.length = ks.length := by rw [rz.length]; exact hl
  obtain ⟨Fz, args, l, t, a, h⟩ := h
  by_cases hn : args.length = n + ks.length
  case neg => simp only [if_neg hn] at h
  simp only [if_pos hn] at h
  have lv : vs.length = n := by have := a.length; rw [List.length_append] at this; omega
  refine F.go A out s H ⟨us, ks.zip ws⟩ (gU us ws) (gV vs zs) Q E hrm gd e0 (hb.to s us ws (in_of e0) (by rw [← r.length]; exact lv) hl) (hb.rel r rz) ?_
  rw [hg vs zs lv lz]
  rcases kwG_ok (g := g) (ix := ix) a (hr Fz) with e | ⟨args', e, k1, k2⟩
  · rw [e] at h; exact h.elim
  · rw [e, ← k2] at h
    exact ⟨Fz, args', l, t, k1, h⟩
end
end Dl

set_option maxHeartbeats 4000000
/-! DLT: what a context has; the world's numbers. -/
namespace Dl
open PySem PySem.W L2 PyProof.Rows
/-- a context with room n, where no repr is under way, whose exceptions end by E -/
structure Cd (W : Wd) (n : Nat) (X : Cx) (E : XK) : Prop where
  hK : X.K = W.K
  cm : X.calm = true
  nd : X.N.Nodup
  rm : Room n X.A
  gd : X.A.guards = some []
  px : Passes (L2.CX X.prog X.w) X E
section
variable {W : Wd} {n : Nat} {X : Cx} {E : XK}
theorem Cd.room {m : Nat} (c : Cd W n X E) (h : m ≤ n) : Room m X.A := c.rm.mono h
theorem Cd.blk (c : Cd W n X E) {s : Shared} {H : Hp} {scope : Scope} {ce : PySem.Env} {fp : List Addr} : Cd W n (X.blk s H scope ce fp) (fun _ _ _ => False) := ⟨c.hK, c.cm, c.nd, c.rm, c.gd, passF⟩
theorem Cd.tr (c : Cd W n X E) {pn : List (Addr × Obj)} {xe : Value → Shared → Prop} {E' : XK} (t : Takes (X.tr pn xe) (fun cls d _ H => E' cls d H)) : Cd W n (X.tr pn xe) E' := ⟨c.hK, c.cm, c.nd, c.rm, c.gd, passes_call t fun _ _ _ _ h => h⟩
theorem cd_body {P : Program} {w : World} {K : Frag} {mg : Str → Option Value} {base : Heap} {N : List Str} {ql : Str} {sc : Scope} {f : Addr} {cdv : Value} {A : Around} {out : List PySem.Env} {z : Shared} {H0 : Hp} (hK : K = W.K) (nd : N.Nodup) (rm : Room n (A.deeper (envOfC ql sc z.heap.objs.size f cdv))) (gd : (A.deeper (envOfC ql sc z.heap.objs.size f cdv)).guards = some []) :
    Cd W n (cxOf (L2.CX P w) P w K mg base N ql sc f cdv A out z H0 E) E := ⟨hK, rfl, nd, rm, gd, passes_call (takes_of rfl rfl rfl rfl) (fun _ _ _ _ h => h)⟩
theorem tk_body {P : Program} {w : World} {K : Frag} {mg : Str → Option Value} {base : Heap} {N : List Str} {ql : Str} {sc : Scope} {f : Addr} {cdv : Value} {A : Around} {out : List PySem.Env} {z : Shared} {H0 : Hp} : Takes (cxOf (L2.CX P w) P w K mg base N ql sc f cdv A out z H0 E) (fun cls d _ H => E cls d H) := takes_of rfl rfl rfl rfl
theorem po_body {P : Program} {w : World} {K : Frag} {mg : Str → Option Value} {base : Heap} {N : List Str} {ql : Str} {sc : Scope} {f : Addr} {cdv : Value} {A : Around} {out : List PySem.Env} {z : Shared} {H0 : Hp} : PassesOwn (model P w) (cxOf (L2.CX P w) P w K mg base N ql sc f cdv A out z H0 E).A (cxOf (L2.CX P w) P w K mg base N ql sc f cdv A out z H0 E).env (cxOf (L2.CX P w) P w K mg base N ql sc f cdv A out z H0 E).xe := passes_of rfl
theorem cd_lam {A : Around} {out : List PySem.Env} {s : Shared} {H : Hp} {E' : XK} {scope : Scope} {f cc : Addr} (hK : X.K = W.K) (nd : X.N.Nodup) (rm : Room n (A.deeper (LamX.lamEnv X scope s.heap.objs.size f cc))) (gd : A.guards = some []) : Cd W n (LamX.lamCx X A out s H E' scope f cc) E' := ⟨hK, rfl, nd, rm, gd, passes_call (takes_of rfl rfl rfl rfl) (fun _ _ _ _ h => h)⟩
end
/-! ### numbers of classes, fields, defs -/
def mkCl (l : List (Option Addr)) (k : Nat) : Addr := match l[k]? with
  | some (some a) => a
  | _ => (l.filterMap id).foldl max 0 + 1 + k
theorem foldl_maxN : ∀ (xs : List Nat) (x : Nat), x ≤ xs.foldl max x ∧ ∀ y ∈ xs, y ≤ xs.foldl max x
  | [], x => ⟨Nat.le_refl _, fun _ h => nomatch h⟩
  | a :: xs, x => by
    obtain ⟨h1, h2⟩ := foldl_maxN xs (max x a)
    refine ⟨Nat.le_trans (Nat.le_max_left x a) h1, fun y hy => ?_⟩
    rcases List.mem_cons.mp hy with rfl | hy
    · exact Nat.le_trans (Nat.le_max_right x y) h1
    · exact h2 y hy
/-- no address twice -/
def cl1 (l : List (Option Addr)) : Bool := (List.range l.length).all fun i => (List.range l.length).all fun j => match l[i]?, l[j]? with
  | some (some a), some (some b) => i == j || a != b
  | _, _ => true
theorem mkCl_inj {l : List (Option Addr)} (h : cl1 l = true) : ∀ a b, mkCl l a = mkCl l b → a = b := by
  intro i j e
  have mem : ∀ {k a}, l[k]? = some (some a) → a ≤ (l.filterMap id).foldl max 0 := fun {k a} q => (foldl_maxN _ 0).2 a (List.mem_filterMap.mpr ⟨some a, List.mem_of_getElem? q, rfl⟩)
  unfold mkCl at e
  split at e
  · rename_i a hi
    split at e
    · rename_i b hj
      subst e
      unfold cl1 at h
      simp only [List.all_eq_true, List.mem_range] at h
      have := h i (get_lt hi) j (get_lt hj)
      rw [hi, hj] at this
      simpa using this
    · have q : @LE.le Nat _ a ((l.filterMap id).foldl max 0) := mem hi
      have e2 : @Eq Nat a ((l.filterMap id).foldl max 0 + 1 + j) := e
      omega
  · split at e
    · rename_i b hj
      have q : @LE.le Nat _ b ((l.filterMap id).foldl max 0) := mem hj
      have e2 : @Eq Nat ((l.filterMap id).foldl max 0 + 1 + i) b := e
      omega
    · have e2 : @Eq Nat ((l.filterMap id).foldl max 0 + 1 + i) ((l.filterMap id).foldl max 0 + 1 + j) := e
      omega
def mkFl (l : List Str) (k : Nat) : Str := match l[k]? with
  | some a => a
  | none => ⟨(List.replicate (k + 1) 46).toArray⟩
/-- no name twice, none made of dots alone -/
def fl1 (l : List Str) : Bool := ((List.range l.length).all fun i => (List.range l.length).all fun j => i == j || l[i]? != l[j]?) && l.all fun x => x.cps.toList.any fun c => c != 46
theorem dots {k : Nat} : ((⟨(List.replicate k 46).toArray⟩ : Str)).cps.toList.any (fun c => c != 46) = false := by
  rw [List.any_eq_false]
  intro c hc
  have : c = 46 := by
    have hc : c ∈ List.replicate k 46 := by simpa using hc
    exact (List.mem_replicate.mp hc).2
  simp [this]
theorem mkFl_inj {l : List Str} (h : fl1 l = true) : ∀ a b, mkFl l a = mkFl l b → a = b := by
  unfold fl1 at h
  rw [Bool.and_eq_true] at h
  obtain ⟨h1, h2⟩ := h
  have nd : ∀ {k x m}, l[k]? = some x → x ≠ (⟨(List.replicate m 46).toArray⟩ : Str) := fun {k x m} q e => by
    rw [List.all_eq_true] at h2
    have := h2 x (List.mem_of_getElem? q)
    rw [e, dots] at this
    cases this
  intro i j e
  unfold mkFl at e
  split at e
  · rename_i a hi
    split at e
    · rename_i b hj
      subst e
      simp only [List.all_eq_true, List.mem_range] at h1
      have := h1 i (get_lt hi) j (get_lt hj)
      rw [hi, hj] at this
      simpa using this
    · exact absurd e (nd hi)
  · split at e
    · rename_i b hj
      exact absurd e.symm (nd hj)
    · have := congrArg (fun z : Str => z.cps.toList.length) e
      simp at this
      exact this
theorem mkFl_ne {l : List Str} {x : Str} (h1 : l.contains x = false) (h2 : (x.cps.toList.any fun c => c != 46) = true) : ∀ k, mkFl l k ≠ x := by
  intro k e
  unfold mkFl at e
  split at e
  · rename_i a hi
    subst e
    have : l.contains a = true := List.elem_iff.mpr (List.mem_of_getElem? hi)
    rw [this] at h1; cases h1
  · rw [← e, dots] at h2; cases h2
def mkFa (l : List (Option Addr)) (d : Addr) (k : Nat) : Addr := match l[k]? with
  | some (some a) => a
  | _ => d
theorem mkFa_base {l : List (Option Addr)} {d : Addr} {P : Addr → Prop} (hd : P d) (h : ∀ a, some a ∈ l → P a) : ∀ k, P (mkFa l d k) := by
  intro k
  unfold mkFa
  split
  · rename_i a hi
    exact h a (List.mem_of_getElem? hi)
  · exact hd
end Dl

set_option maxHeartbeats 4000000
/-! DLU: the forms that the printer uses. -/
namespace Dl
open PySem PySem.W L2 PyProof.Rows
abbrev Tbl := Nat → Option (List Sl → RF)
def noT : Tbl := fun _ => none
section
variable {X : Cx} {W : Wd} {B : Bs} {E : XK} {n : Nat} {e o : Expr} {f : M D} {pos p apos : Pos} {x z : Str} {ob : Bool}
theorem no_eq : ∀ c g, noT c = some g → EqL X W n c g := fun _ _ h => nomatch h
theorem no_in : ∀ c g, noT c = some g → InL X W n c g := fun _ _ h => nomatch h
theorem no_st {nm : Str} : ∀ c g, noT c = some g → StL X W n nm c g := fun _ _ h => nomatch h
theorem no_pr {nm : Str} : ∀ c g, noT c = some g → PrOk X W n c nm g := fun _ _ h => nomatch h
theorem pd_fldON {i fi : Nat} (hz : W.fl fi = z) (hK : X.K = W.K) (inj : ∀ a b, W.fl a = W.fl b → a = b) (hN : X.N[i]? = some x) (hv : Vis X.env.scope x) (hd : (x == ("__debug__" : Str)) = false) (hcd : (x == ("__classdict__" : Str)) = false) : PE X (.Attribute (.Name x p) z pos) (tD W B E (mFldO i fi)) := by
  subst hz
  exact pd_fldO hK inj hN hv hd hcd
theorem pds_setFN {i fi : Nat} {fo : Nat → Bool} (hz : W.fl fi = z) (hK : X.K = W.K) (inj : ∀ a b, W.fl a = W.fl b → a = b) (hfo : ∀ c, fo c = true → NoAttr W.K (W.cl c) (W.fl fi)) (hN : X.N[i]? = some x) (hv : Vis X.env.scope x) (hd : (x == ("__debug__" : Str)) = false) (hcd : (x == ("__classdict__" : Str)) = false)
    (he : PE X e (tD W B E f)) (hs : swapsWith e (some (.Attribute (.Name x p) z apos)) pos.line X.env = pure false) : PS X (.Assign [.Attribute (.Name x p) z apos] e pos) (tS W B E ob (sSetF i fi fo f)) := by
  subst hz
  exact pds_setF hK inj hfo hN hv hd hcd he hs
theorem pd_attrN {pt : Tbl} {fi : Nat} (hz : W.fl fi = z) (hK : X.K = W.K) (inj : ∀ a b, W.fl a = W.fl b → a = b) (hr : Room (n + 1) X.A) (hg : X.A.guards = some []) (hpt : ∀ c g, pt c = some g → PrOk X W n c (W.fl fi) g) (he : PE X o (tD W B E f)) (hb : plainBase o = true) :
    PE X (.Attribute o z pos) (tD W B E (m1 (attrD pt fi) f)) := by
  subst hz
  exact pd_attr hK inj hr hg hpt he hb
/-- {} -/
def mDct0 : M D := M.ret (.dct [] [])
theorem po_dct0 : PE X (.Dict [] [] pos) (tO W B E mDct0) := PE.imp pe_dnewK fun σ H Q ⟨F, env, ag, h⟩ => fun p np => by
  have nf : F p = none := by
    cases q : F p with
    | none => rfl
    | some z => rw [ag.sub _ _ q] at np; cases np
  have st := PStep.al (W := W) (o := .dK []) ag.sub ag.tabs np
  exact h F _ p st.stp (ag.step st) (ag.nw np) np nf ⟨[], upd_same, .nil, .nil⟩
theorem pd_dct0 : PE X (.Dict [] [] pos) (tD W B E mDct0) := pd_ofO po_dct0
theorem vals_pick {vs : List V} {us : List Value} (h : Vals vs us) : ∀ {ix : List Nat}, Vals (pick vs ix) (pick us ix)
  | [] => .nil
  | i :: ix => by
    have ih := vals_pick h (ix := ix)
    cases e : vs[i]? with
    | none =>
      have e2 : us[i]? = none := by rw [List.getElem?_eq_none_iff] at e ⊢; rw [← h.length]; exact e
      have a1 : pick vs (i :: ix) = pick vs ix := by simp [pick, e]
      have a2 : pick us (i :: ix) = pick us ix := by simp [pick, e2]
      rw [a1, a2]; exact ih
    | some v =>
      obtain ⟨u, hu, ru⟩ := h.get e
      have a1 : pick vs (i :: ix) = v :: pick vs ix := by simp [pick, e]
      have a2 : pick us (i :: ix) = u :: pick us ix := by simp [pick, hu]
      rw [a1, a2]; exact .cons ru ih
/-- what raising asks, told of the program -/
structure XcB (P : Program) (w : World) (K : Frag) (mg : Str → Option Value) (base : Heap) (W : Wd) (c : Nat) (fs : List Nat) : Prop where
  T : OexC K (W.cl c)
  xi : XI W c fs
  ini : ∃ fI fd ps, findIn K (.ref (W.cl c)) "__init__" = some (some (.ref fI)) ∧ typeIn K (.ref fI) = some (.type "function") ∧ FnOk P w K mg base (L2.CX P w) 1 fI fd ps (spX W (W.cl c) fs) ∧ Binds K fd ps []
theorem XcB.xcl {c : Nat} {fs : List Nat} (h : XcB X.prog X.w X.K X.mg X.base W c fs) : XcL X W c fs := ⟨h.T, h.xi, h.ini⟩
end
end Dl

set_option maxHeartbeats 4000000
/-! DLV: defs that make lambdas: their code object is known; the def that gets one. -/
namespace Dl
open PySem PySem.W L2 PyProof.Rows
theorem runB_len {n N : Nat} {o : Bool} {m : MS} {args : List Sl} {r : D × List D} (h : runB n N o m args = .ok r) : args.length = n := by
  unfold runB at h
  split at h
  · assumption
  · cases h
theorem runB_lenX {n N : Nat} {o : Bool} {m : MS} {args : List Sl} {x : Xc} (h : runB n N o m args = .exc x) : args.length = n := by
  unfold runB at h
  split at h
  · assumption
  · cases h
theorem spT_len {W : Wd} {n N : Nat} {o : Bool} {m : MS} {vs : List V} {H : Hp} {Q : VK} {E : XK} (h : spT W o (runB n N o m) vs H Q E) : vs.length = n := by
  obtain ⟨F0, args, s, t, ha, h⟩ := h
  rw [ha.length]
  cases e : runB n N o m args with
  | ok r => exact runB_len e
  | exc x => exact runB_lenX e
  | bad => rw [e] at h; exact h.elim
/-- the promise as a state of the body -/
theorem body_tS {W : Wd} {N : List Str} {n : Nat} {o : Bool} {m : MS} {vs : List V} {H : Hp} {Q : VK} {E : XK} (h : spT W o (runB n N.length o m) vs H Q E) : ∃ B : Bs, tS W B E o m { nx := fun _ H' => Q .non H', rt := Q } (L2.start N vs) H := by
  obtain ⟨F0, args, s, t, ha, h⟩ := h
  refine ⟨⟨F0, H, adr vs args, 0⟩, F0, _, ag_start s t ha, ?_⟩
  unfold runB at h
  by_cases hln : args.length = n
  case neg => rw [if_neg hln] at h; exact h.elim
  rw [if_pos hln] at h
  cases e : m (entry 0 args ++ List.replicate (N.length - args.length) .no) with
  | ok p =>
    obtain ⟨fl, env⟩ := p
    rw [e] at h
    cases fl with
    | rt d =>
      intro F' H' σ' v _ g r
      simp only at h
      cases q : outsOf 0 args env with
      | none => rw [q] at h; exact h.elim
      | some outs =>
        rw [q] at h
        exact h F' H' v g.bs (outs_ok 0 (off := 0) g (fun i => by simp) ha (fun j a e => by simpa using e) q) r
    | nx =>
      intro F' H' σ' _ g
      simp only at h
      cases o with
      | true => exact h.elim
      | false =>
        cases q : outsOf 0 args env with
        | none => rw [q] at h; exact h.elim
        | some outs =>
          rw [q] at h
          exact h F' H' .non g.bs (outs_ok 0 (off := 0) g (fun i => by simp) ha (fun j a e => by simpa using e) q) rfl
    | bk => exact h.elim
    | ct => exact h.elim
  | exc x => rw [e] at h; exact h
  | bad => rw [e] at h; exact h.elim
/-- a def by its body, its code object known -/
theorem fn_bodyC {P : Program} {w : World} {K : Frag} {mg : Str → Option Value} {base : Heap} {nm ql : Str} {pr : Arguments} {bd : List Stmt} {sc : Scope} {dv : List V} {kd : List (Str × V)} {f : Addr} {fd : FuncData} {N ps : List Str} {k : Nat} {W : Wd} {o : Bool} {m : MS} {cv : Value}
    (F : FunD K nm ql pr bd sc dv kd f fd) (hc : fd.code = cv) (S : FnScope N ps sc)
    (hb : ∀ (A : Around) (out : List PySem.Env) (z : Shared) (H0 : Hp) (B : Bs) (E : XK), Room k (A.deeper (envOfC ql sc z.heap.objs.size f cv)) → (A.deeper (envOfC ql sc z.heap.objs.size f cv)).guards = some [] →
      PSs (cxOf (L2.CX P w) P w K mg base N ql sc f cv A out z H0 E) bd (tS W B E o m)) : Wp.FnG P w K mg base (k + 1) f fd ps (spT W o (runB ps.length N.length o m)) := by
  obtain ⟨oc, od, dV, kV, doc, pm, an, cdv, ct, osl, rfl, lk, code, _, _⟩ := F.ex
  cases hc
  refine ⟨fun vs H Q E h => spT_len h, fun A out z H ar us vs Q E hr gd e0 bt r h => ?_⟩
  refine LamX.run_ofS lk code S hr e0 bt r (spT_len h) fun rm => ?_
  obtain ⟨B, t⟩ := body_tS h
  exact ⟨_, hb A out z H B E rm gd, t⟩
section
variable {X : Cx} {W : Wd} {B : Bs} {E : XK}
/-- x(lambda: body), x known as a def -/
theorem pd_lamF {x a : Str} {g co tb : Addr} {k : Nat} {pg pr : Arguments} {bg : List Stmt} {sg scope : Scope} {fd : FuncData} {Ng : List Str} {n : Nat} {body : Expr} {mH : R D → MS} {mb : M D} {p lpos pos : Pos}
    (F : FunD X.K x x pg bg sg [] [] g fd) (hbd : Binds X.K fd [a] []) (hg : Gl X x) (hm : X.mg x = some (.ref g)) (Sg : FnScope Ng [a] sg) (hN : Ng[0]? = some a) (hv : Vis sg a)
    (hG : ∀ (cdv : Value) (s : Shared) (H : Hp) (B : Bs) (Eg : XK) (r : R D), Room (k + 1) (X.A.deeper (envOfC x sg s.heap.objs.size g cdv)) → AskOk (gotX X Ng x sg g cdv s H Eg) W B a 0 r → PSs (gotX X Ng x sg g cdv s H Eg) bg (tS W B Eg false (mH r)))
    (tbb : LamX.TabB X.base X.mg co tb) (hco : X.env.code = .ref co) (mem : (tb, lamQ X) ∈ W.TT) (uni : ∀ q ∈ W.TT, q.1 = tb → q.2 = lamQ X) (rm : Room (k + 2) X.A) (gd : X.A.guards = some []) (hx : Passes (L2.CX X.prog X.w) X E) (ls : LamX.LamS X.env.scope scope) (nodef : defaultsOf pr X.env = ([], []))
    (bd : ∀ (q : Str) (cl : List (Str × Addr)) (pm cv ctv : Value), bindArgs (kla_fn "<lambda>" q pr body scope cl pm cv ctv) ⟨[], []⟩ = pure [])
    (hb : ∀ (A : Around) (out : List PySem.Env) (s1 : Shared) (H1 : Hp) (E' : XK) (B : Bs) (f cc : Addr), Room k (A.deeper (LamX.lamEnv X scope s1.heap.objs.size f cc)) → A.guards = some [] → PE (LamX.lamCx X A out s1 H1 E' scope f cc) body (tD W B E' mb))
    (hdb : (x == ("__debug__" : Str)) = false) (hd : (a == ("__debug__" : Str)) = false) (hcd : (a == ("__classdict__" : Str)) = false) (hn : Ng.length = n) :
    PE X (.Call (.Name x p) [.Lambda pr body scope lpos] [] pos) (tD W B E (mLam n mH mb)) := by
  subst hn
  obtain ⟨oc, od, dV, kV, doc, pm, an, cdv, ct, osl, rfl, lk, code, _, _⟩ := F.ex
  exact pd_lam hg hm F.kp lk code hbd Sg hN hv (hG cdv) tbb hco mem uni rm gd hx ls nodef bd hb hdb hd hcd
/-- the tables of the defs that make lambdas: (code, table, name) -/
structure TabL (K : Frag) (base : Heap) (mg : Str → Option Value) (W : Wd) (fd : FuncData) (ql : Str) : Prop where
  ex : ∃ co tb, fd.code = .ref co ∧ LamX.TabB base mg co tb ∧ (tb, ql ++ ("<lambda>" : Str)) ∈ W.TT ∧ ∀ q ∈ W.TT, q.1 = tb → q.2 = ql ++ ("<lambda>" : Str)
end
end Dl

set_option maxHeartbeats 4000000
/-! DLW: the law's end: the script and the tables of code are tracked, no repr is under way. -/
namespace Dl
open PySem PySem.W L2 PyProof.Rows
abbrev tabO : Obj := { cls := .none, data := .fields #[] }
/-- the heap's view at the entry: the script (if it is none of the written part's), the tables -/
def H0 (a : Addr) (sc : Option HO) (ts : List Addr) : Hp := fun c => if c = a then sc else if ts.contains c then some (.tbl #[]) else none
theorem call_gT {P : Program} {w : World} {K : Frag} {mg mb : Str → Option Value} {k : Nat} {fa a : Addr} {fd : FuncData} {x : Str} {sp : Sp} {z : Shared} {us : List Value} {ns : List Int} {cs : List (Addr × Addr)}
    (inK : K.In z.heap) (nsm : z.heap.Ns mainGlobals mg) (nsb : z.heap.Ns builtinsNs mb) (boot : ∀ y : Str, y ≠ "__name__" → mb y = bootBuiltins y) (nol : z.heap.NoLimit) (gn : z.gens = #[])
    (em : ∀ q ∈ cs, z.heap.get? q.2 = some tabO) (nk : ∀ q ∈ cs, K.lookup q.2 = none) (hd : ∀ q ∈ cs, CodeHd z.heap q.1 q.2)
    (bmod : ∃ (m : Addr) (om : Obj), mg "__builtins__" = some (.ref m) ∧ m ≠ builtinsNs ∧ z.heap.get? m = some om ∧ om.cls = .type "module" ∧ om.dict = some builtinsNs ∧ om.data = .plain)
    (la : z.heap.get? a = some { cls := .type "list", data := .seq us.toArray }) (ia : IntsAre us ns) (ll : ns.length ≤ sizeLine) (hr : Room k callerA)
    (F : ∀ b : Heap, K.In b → b.Ns mainGlobals mg → (∀ q ∈ cs, LamX.TabB b mg q.1 q.2) → Wp.FnG P w K mg b k fa fd [x] sp) (bind : ∀ (s : Shared) (u : Value), BindsTo s fd ⟨[u], []⟩ [(x, u)])
    (hsp : ∀ H : Hp, (∀ q ∈ cs, H q.2 = some (.tbl #[])) → SqL K H a (ns.map V.int) → sp [.ref a] H (fun v _ => v = .bl true) fun _ _ _ => False) :
    codeAny (model P w) callerA (.call (.ref fa) ⟨[.ref a], []⟩) (fun r s' => r = .ok (.ret (.bool true)) ∧ OldK z.heap s'.heap ∧ s'.os = z.os ∧ AllBare s'.gens) z := by
  have vi := vals_ints ia
  have li := ia.length
  obtain ⟨ts, hts⟩ : ∃ ts : List Addr, ts = cs.map (·.2) := ⟨_, rfl⟩
  have inT : ∀ q ∈ cs, ts.contains q.2 = true := fun q hq => by
    rw [hts]
    exact List.elem_iff.mpr (List.mem_map.mpr ⟨q, hq, rfl⟩)
  have ofT : ∀ c, ts.contains c = true → ∃ q ∈ cs, q.2 = c := fun c h => by
    rw [hts] at h
    exact List.mem_map.mp (List.elem_iff.mp h)
  have emT : ∀ c, ts.contains c = true → z.heap.get? c = some tabO := fun c h => by
    obtain ⟨q, hq, rfl⟩ := ofT c h
    exact em q hq
  have aT : ts.contains a = false := by
    cases h : ts.contains a with
    | false => rfl
    | true =>
      have q := emT a h
      rw [la] at q
      have d2 : Data.seq us.toArray _ = Data.fields #[] := congrArg Obj.data (Option.some.inj q)
      cases d2
  have core : ∀ sc : Option HO, (sc = none ∨ ∃ oc xs, sc = some (.frz oc (.lst xs))) → SqL K (H0 a sc ts) a (ns.map V.int) → HOk P w (H0 a sc ts) z.heap → (sc ≠ none → K.lookup a = none) →
      codeAny (model P w) callerA (.call (.ref fa) ⟨[.ref a], []⟩) (fun r s' => r = .ok (.ret (.bool true)) ∧ OldK z.heap s'.heap ∧ s'.os = z.os ∧ AllBare s'.gens) z := by
    intro sc hsc sq hok hK
    have atT : ∀ c, ts.contains c = true → H0 a sc ts c = some (.tbl #[]) := fun c h => by
      have ne : c ≠ a := fun e => by rw [e, aT] at h; cases h
      unfold H0
      rw [if_neg ne, if_pos h]
    have low : ∀ {c : Addr} {o : Obj}, z.heap.get? c = some o → (∀ xs n, o.data ≠ .seq xs n) → o.data ≠ .fields #[] → (hidT z.heap (H0 a sc ts)).get? c = some o := fun {c o} e h1 h2 => by
      refine hidT_get e ?_
      unfold H0
      by_cases ca : c = a
      · rw [ca, la] at e
        cases e
        exact absurd rfl (h1 _ _)
      · rw [if_neg ca]
        cases ct : ts.contains c with
        | false => rfl
        | true =>
          rw [emT c ct] at e
          cases e
          exact absurd rfl h2
    have nsK : ∀ {c : Addr} {m : Str → Option Value}, z.heap.Ns c m → (hidT z.heap (H0 a sc ts)).Ns c m := by
      rintro c m ⟨o, es, ep, e, d, r⟩
      exact ⟨o, es, ep, low e (fun xs n q => by rw [d] at q; cases q) (fun q => by rw [d] at q; cases q), d, r⟩
    have inB : K.In (hidT z.heap (H0 a sc ts)) := by
      intro c o e
      refine hidT_get (inK c o e) ?_
      unfold H0
      by_cases ca : c = a
      · rw [if_pos ca]
        rcases hsc with h | ⟨oc, xs, h⟩
        · exact h
        · rw [ca, hK (by rw [h]; simp)] at e
          cases e
      · rw [if_neg ca]
        cases ct : ts.contains c with
        | false => rfl
        | true =>
          obtain ⟨q, hq, rfl⟩ := ofT c ct
          rw [nk q hq] at e
          cases e
    have md : Mod K mg (hidT z.heap (H0 a sc ts)) := by
      obtain ⟨mc, h1, h2⟩ := nol
      exact ⟨inB, nsK nsm, ⟨mb, nsK nsb, boot⟩, ⟨mc, nsK h1, h2⟩⟩
    have tb : ∀ q ∈ cs, LamX.TabB (hidT z.heap (H0 a sc ts)) mg q.1 q.2 := fun q hq => by
      have eq := em q hq
      refine ⟨?_, ?_, fun e => ?_⟩
      · obtain ⟨o, vs, fi, t1, fg, t2, nf, tx, t3, e1, e2, e3, e4, rest⟩ := hd q hq
        refine ⟨o, vs, fi, t1, fg, t2, nf, tx, t3, low e1 (fun xs n q => by rw [e3] at q; cases q) (fun q => ?_), e2, e3, e4, rest⟩
        rw [e3] at q
        cases q
        simp at e4
      · obtain ⟨m, om, b1, b2, b3, b4, b5, b6⟩ := bmod
        refine ⟨m, om, b1, b2, fun e => ?_, fun e => ?_, low b3 (fun xs n q => by rw [b6] at q; cases q) (fun q => by rw [b6] at q; cases q), b4, b5, b6⟩
        · obtain ⟨o, es, ep, e1, d, _⟩ := nsm
          rw [e, e1] at b3
          cases b3
          rw [d] at b6
          cases b6
        · rw [e, eq] at b3
          cases b3
          cases b6
      · obtain ⟨o, es, ep, e1, d, _⟩ := nsm
        rw [e, eq] at e1
        cases e1
        cases d
    have e0 : Env0 P w K mg (hidT z.heap (H0 a sc ts)) callerA [] z (H0 a sc ts) := by
      refine ⟨rfl, md, fun c o e => of_hidT e, Nat.le_of_eq (hidT_size _ _), trivial, fun c hc => ?_, hok, .of_eq gn⟩
      exact absurd (show c ∈ ([] : List Addr) from hc) (by simp)
    have go := (F _ inB (nsK nsm) tb).go callerA [] z (H0 a sc ts) ⟨[.ref a], []⟩ [.ref a] [.ref a] _ _ hr rfl e0 (bind z (.ref a)) (.cons rfl .nil) (hsp _ (fun q hq => atT _ (inT q hq)) sq)
    refine codeAny_mono go fun r s' h => ?_
    cases r with
    | error e =>
      obtain ⟨_, _, _, _, _, _, _, _, _, _, _, _, hE⟩ := h
      exact hE.elim
    | ok fl =>
      cases fl with
      | next => exact False.elim h
      | brk => exact False.elim h
      | cont => exact False.elim h
      | ret u =>
        obtain ⟨v, H', os, bare, un, hok', r', q⟩ := h
        obtain rfl : v = .bl true := q
        obtain rfl : u = Value.bool true := r'
        have old : ∀ c o, ts.contains c = false → z.heap.get? c = some o → s'.heap.get? c = some o := fun c o ct e => by
          by_cases ca : c = a
          · rcases hsc with h | ⟨oc, xs, h⟩
            · refine un.keep c o e ?_ (fun y => absurd (show c ∈ ([] : List Addr) from y) (by simp)) (by simp)
              unfold H0
              rw [if_pos ca, h]
            · have y : H0 a sc ts c = some (.frz oc (.lst xs)) := by
                unfold H0
                rw [if_pos ca, h]
              obtain ⟨e1, _⟩ := hok c _ y
              obtain ⟨e2, _⟩ := hok' c _ (un.frzs c oc _ y)
              rw [e] at e1
              cases e1
              exact e2
          · refine un.keep c o e ?_ (fun y => absurd (show c ∈ ([] : List Addr) from y) (by simp)) (by simp)
            unfold H0
            rw [if_neg ca, ct]
            rfl
        have grow : ∀ q ∈ cs, ∃ ws : Array Value, s'.heap.get? q.2 = some { cls := .none, data := .fields ws } := fun q hq => by
          obtain ⟨ws, y⟩ := un.tbls q.2 #[] (atT _ (inT q hq))
          exact ⟨_, hok' q.2 _ y⟩
        refine ⟨rfl, ⟨fun c o e => ?_, fun c o e => ?_⟩, os, bare⟩
        · cases ct : ts.contains c with
          | false => exact .inl (old c o ct e)
          | true =>
            obtain ⟨q, hq, rfl⟩ := ofT c ct
            obtain ⟨ws, hw⟩ := grow q hq
            rw [em q hq] at e
            cases e
            refine .inr (.inl ⟨((hd q hq).tab (em q hq)).isCodeTable, rfl, #[], ws, rfl, ?_⟩)
            rw [Array.empty_append]
            exact hw
        · cases ct : ts.contains c with
          | false => exact ⟨o, old c o ct e⟩
          | true =>
            obtain ⟨q, hq, rfl⟩ := ofT c ct
            obtain ⟨ws, hw⟩ := grow q hq
            exact ⟨_, hw⟩
  have at_a : ∀ sc, H0 a sc ts a = sc := fun sc => if_pos rfl
  cases hk : K.lookup a with
  | some o =>
    have e := inK a o hk
    rw [la] at e
    cases e
    refine core none (.inl rfl) (.inr ⟨_, us.toArray, _, hk, rfl, rfl, rfl, by rw [List.size_toArray, li]; exact ll, by simpa using vi⟩) (fun c u y => ?_) (fun h => absurd rfl h)
    unfold H0 at y
    by_cases ca : c = a
    · rw [if_pos ca] at y; cases y
    · rw [if_neg ca] at y
      cases ct : ts.contains c with
      | false => rw [ct] at y; cases y
      | true => rw [ct] at y; cases y; exact emT c ct
  | none =>
    refine core (some (.frz { cls := .type "list", data := .seq us.toArray } (.lst (ns.map V.int)))) (.inr ⟨_, _, rfl⟩) (.inl (.inr ⟨_, at_a _⟩)) (fun c u y => ?_) fun _ => hk
    unfold H0 at y
    by_cases ca : c = a
    · rw [if_pos ca] at y
      cases y
      subst ca
      exact ⟨la, by rw [List.length_map]; exact ll, us, _, vi, la⟩
    · rw [if_neg ca] at y
      cases ct : ts.contains c with
      | false => rw [ct] at y; cases y
      | true => rw [ct] at y; cases y; exact emT c ct
/-- the end of a law by its function over plain data -/
theorem walk_gT {l : PySem.W.OpenLaw} {n k : Nat} {q : Program} {loose : List Str} {XP : (Str → Option Value) → Heap → Prop} {YP : World → Heap → Prop} {d : DefRec} {x : Str}
    (hn : l.most = some n) (hn2 : n ≤ sizeLine) (hdf : d.params.defaults = []) (hr : Room k callerA)
    (F : ∀ (w : World) (mg : Str → Option Value) (fa : Addr) (h : Heap), YP w h → h.Ns mainGlobals mg → mg d.name = some (.ref fa) →
      ∃ (K : Frag) (fd : FuncData) (sp : Sp) (cs : List (Addr × Addr)), K.In h ∧ (∀ (s : Shared) (u : Value), BindsTo s fd ⟨[u], []⟩ [(x, u)]) ∧ (∀ p ∈ cs, h.get? p.2 = some tabO) ∧ (∀ p ∈ cs, K.lookup p.2 = none) ∧ (∀ p ∈ cs, CodeHd h p.1 p.2) ∧
        (∀ (H : Hp) (a : Addr) (ns : List Int), ns.length ≤ n → (∀ i ∈ ns, Builtin.Int.intBits i ≤ 1048576) → (∀ p ∈ cs, H p.2 = some (.tbl #[])) → SqL K H a (ns.map V.int) → sp [.ref a] H (fun v _ => v = .bl true) fun _ _ _ => False) ∧
        ∀ base : Heap, K.In base → base.Ns mainGlobals mg → (∀ p ∈ cs, LamX.TabB base mg p.1 p.2) → Wp.FnG l.prog w K mg base k fa fd [x] sp) :
    PySem.W.WalkO q loose XP YP l.row.toRowW d [] (fun f vs => PySem.call f vs) := by
  refine Att.attach_callB hn hdf fun w s0 s1 mg mb fa o pm cd doc a vs ns G Y _ _ _ hmg hobj hints hlen hbits hg => ?_
  have ⟨K, fd, sp, cs, KX, hb, t1, t2, t3, hsp, hF⟩ := F w mg fa _ Y G.T.g hmg
  exact call_gT KX G.T.g G.T.b G.T.builtins G.T.nolimit hg t1 t2 t3 G.T.bmain hobj hints (Nat.le_trans hlen hn2) hr hF hb (fun H hT hS => hsp H a ns hlen hbits hT hS)
/-- the promise at the entry -/
def noTbl (H : Hp) : Hp := fun c => match H c with
  | some (.tbl _) => none
  | o => o
theorem noTbl_le {H : Hp} : Le (noTbl H) H := fun c o h => by
  unfold noTbl at h
  split at h
  · cases h
  · exact h
theorem law_sp {W : Wd} {g : List Sl → RF} {cs : List (Addr × Addr)} {H : Hp} {a : Addr} {ns : List Int} {outs : List D} (hT : ∀ p ∈ cs, H p.2 = some (.tbl #[])) (ht : ∀ q ∈ W.TT, ∃ p ∈ cs, p.2 = q.1) (hS : SqL W.K H a (ns.map V.int)) (h : g [.pu (.slc (ns.map D.int))] = .ok (.bl true, outs)) :
    spT W false g [.ref a] H (fun v _ => v = .bl true) fun _ _ _ => False := by
  refine ⟨noTbl H, [.pu (.slc (ns.map D.int))], noTbl_le, ⟨fun q hq => ?_, fun c ps e => ?_⟩, ⟨⟨a, ns.map V.int, rfl, ?_, reps_ints ns⟩, trivial⟩, ?_⟩
  · obtain ⟨p, hp, e⟩ := ht q hq
    refine ⟨#[], by rw [← e]; exact hT p hp, trivial, fun pos cv z => by cases z⟩
  · unfold noTbl at e
    split at e
    · cases e
    · rename_i o z
      exact z ps e
  · rcases hS with (y | ⟨o, y⟩) | y
    · exact .inl (.inl (by unfold noTbl; rw [y]))
    · exact .inl (.inr ⟨o, by unfold noTbl; rw [y]⟩)
    · exact .inr y
  · rw [h]
    intro F' H' v _ _ r
    exact r
/-! ### facts by Bools -/
def oexB (K : Frag) (C : Addr) : Bool := (match K.lookup C with
    | some ⟨.type t, _, .cls cd, sl⟩ => t == "type" && (match cd.mro, sl.toList with
      | .ref A :: bm, [_, _, _, _, some (.builtin nw), _] => A == C && (nw == "ValueError.__new__" && (!cd.hasDel && (cd.hasDict && PySem.HandSPX.refsVE bm)))
      | _, _ => false)
    | _ => false) && (decide (findIn K (.ref C) "__setattr__" = some (some (.builtin "object.__setattr__"))) && (decide (subIn K (.ref C) (.type "BaseException") = some true) && (decide (typeIn K (.ref C) = some (.type "type")) && keepIn K (.ref C))))
theorem oexB_ok {K : Frag} {C : Addr} (h : oexB K C = true) : OexC K C := by
  unfold oexB at h
  simp only [Bool.and_eq_true, decide_eq_true_eq] at h
  obtain ⟨h, h1, h2, h3, h4⟩ := h
  refine ⟨?_, h1, h2, h3, h4⟩
  split at h
  · rename_i t dd cd sl lk
    obtain ⟨ht, h⟩ := Bool.and_eq_true_iff.mp h
    have ht : t = "type" := by simpa using ht
    subst ht
    split at h
    · rename_i A bm k0 k1 k2 k3 nw k5 hm hs
      simp only [Bool.and_eq_true, beq_iff_eq, Bool.not_eq_true'] at h
      obtain ⟨_, rfl, rfl, hdel, hdi, hv⟩ := h
      obtain ⟨nm, bs, mro, nss, qn, hdd, sn, sub, ab, col, del⟩ := cd
      dsimp only at hm hdel hdi
      subst hm hdel hdi
      obtain ⟨sl⟩ := sl
      dsimp only at hs
      subst hs
      exact ⟨_, _, _, _, bm, _, _, _, _, _, _, _, _, _, _, lk, hv⟩
    · cases h
  · cases h
def insKB (K : Frag) (C : Addr) : Bool := selfFirst K C && (He.eqO (findIn K (.ref C) "__class__") (some (some (.builtin "object.__class__"))) && (He.eqO (specialIn K (.builtin "object.__class__") "__get__") (some (some (.builtin "getset_descriptor.__get__"))) && (decide (takesIn K (.builtin "object.__class__") = some true) && decide (mroIn K C (.type "object") = some true))))
theorem insKB_ok {K : Frag} {C : Addr} (c : Cls K C) (h : insKB K C = true) : Wp.InsK K C := by
  unfold insKB at h
  simp only [Bool.and_eq_true, decide_eq_true_eq] at h
  obtain ⟨h1, h2, h3, h4, h5⟩ := h
  exact ⟨c, h1, He.eqO_ok h2, He.eqO_ok h3, h4, h5⟩
/-- an exception class whose instances are asked for fields and by isinstance -/
def xiB (K : Frag) (C : Addr) : Bool := xfB K C && (He.eqO (findIn K (.ref C) "__class__") (some (some (.builtin "object.__class__"))) && (He.eqO (specialIn K (.builtin "object.__class__") "__get__") (some (some (.builtin "getset_descriptor.__get__"))) && (decide (takesIn K (.builtin "object.__class__") = some true) && decide (mroIn K C (.type "object") = some true))))
theorem xiB_ok {K : Frag} {C : Addr} (h : xiB K C = true) : XfC K C ∧ ExcC K C := by
  unfold xiB at h
  simp only [Bool.and_eq_true, decide_eq_true_eq] at h
  obtain ⟨h1, h2, h3, h4, h5⟩ := h
  have x := xfB_ok h1
  exact ⟨x, x.ga, x.gg, x.exC, x.hdC, He.eqO_ok h2, He.eqO_ok h3, h4, h5⟩
end Dl

set_option maxHeartbeats 4000000
/-! DMA: classmethods called off their class; a class called by a local name. -/
namespace Dl
open PySem PySem.W L2 PyProof.Rows
section
variable {M : Model} {A : Around} {E : Value → Shared → Prop} {s : Shared} {K : Frag} {first : List Value} {pos : Pos} {Q : Value → Shared → Prop}
theorem kw_none {kws : List (Option Str × Sem Value)} (hall : kws.all (·.1.isSome) = true) : kws.any (·.1.isNone) = false := by
  rw [List.any_eq_false]
  intro x hx
  have := List.all_eq_true.mp hall x hx
  cases q : x.1 with
  | none => rw [q] at this; cases this
  | some v => simp
/-- the callee is a bound method's record -/
theorem cwM_plain {q g : Addr} {self : Value} {args : List (Bool × Sem Value)} {kws : List (Option Str × Sem Value)} (hf : fnIn K g = true) (hp : args.any (·.1) = false) (hall : kws.all (·.1.isSome) = true)
    (h : wpAny M A (spliced args) (fun vs s1 => wpAny M A (evalAll (kws.map (·.2))) (fun ks s2 => MethP K q g self s2.heap ∧ wpAny M A (call (.ref q) (first ++ vs) ((kws.filterMap (·.1)).zip ks)) Q E s2) E s1) E s) : wpAny M A (callWith pos (.ref q) first args kws) Q E s := by
  refine callWith_of (P := MethP K q g self) ?_ (fun h X => keeps_M hf h X) (evalArgs_gen (fun x e => ?_) hall h)
  · rw [hp, kw_none hall]; rfl
  · rw [e] at hp; simp at hp
end
section
variable {X : Cx} {W : Wd} {B : Bs} {E : XK} {es : List Expr} {kws : List Keyword} {ks : List Str} {pos p apos : Pos} {n : Nat} {g : List Sl → RF} {m m2 : M (List Av)} {x mn : Str}
/-- C.m(..), m a classmethod; the class is handed over as the thing ci -/
def mCm (ci : Nat) (g : List Sl → RF) (m : M (List Av)) : M D := mCall (fun as => g (.pu (.fn ci) :: as)) m
theorem pd_cmeth {c ci : Nat} {mc : Value} {rp gf : Addr} (hC : W.fa ci = W.cl c) (rd : ClX.CRead X.K (W.cl c) mc) (k : ClX.CMet X.K (W.cl c) mc mn rp gf) (C : CalOk X.prog X.w X.K X.mg X.base n (.ref gf) ks (spT W false g)) (hr : Room n X.A) (hg : X.A.guards = some []) (hx : Passes (L2.CX X.prog X.w) X E) (hgl : Gl X x) (hm : X.mg x = some (.ref (W.cl c))) (hdb : (x == ("__debug__" : Str)) = false)
    (h1 : PA X es (tV W B E m)) (h2 : PK X kws (tV W B E m2)) (hs : es.any isStar = false) (hall : (kws.all fun k => k.arg.isSome) = true) (hks : (kws.filterMap fun k => k.arg) = ks) (hn : es.length + kws.length + 1 < 30) (hl : (apos.endLine == pos.line) = true) :
    PE X (.Call (.Attribute (.Name x p) mn apos) es kws pos) (tD W B E (mCm ci g (mApp ks.length m m2))) := by
  refine ⟨fun pins s σ H Q I h => ?_⟩
  refine methodCall_KW ?_ (meth_eval rfl hs hall hn hl)
  refine ld_glob I hgl hm ?_ hdb
  refine ClX.getmethcm_ok I rd k fun s1 I1 => ?_
  have key : tV W B E m σ H (fun vs H1 => tV W B E m2 σ H1 (fun zs H2 => zs.length = ks.length ∧ spT W false g (.ref (W.cl c) :: (vs ++ zs)) H2 Q E)) := by
    obtain ⟨F, env, ag, h⟩ := h
    have h : Want W B E F H env σ Q (M.bind (mApp ks.length m m2) (fun as env => match slOf env as with
      | some args => (match g (.pu (.fn ci) :: args) with
        | .ok (d, outs) => .ok (d, putO as outs env)
        | .exc x => .exc x
        | .bad => .bad)
      | none => .bad) env) := h
    have h' : Want W B E F H env σ Q (M.bind m (fun as => M.bind m2 fun bs => M.bind (if bs.length = ks.length then M.ret (as ++ bs) else fun _ => .bad) (fun as env => match slOf env as with
      | some args => (match g (.pu (.fn ci) :: args) with
        | .ok (d, outs) => .ok (d, putO as outs env)
        | .exc x => .exc x
        | .bad => .bad)
      | none => .bad)) env) := by
      refine Eq.mp ?_ h
      congr 1
      unfold mApp M.bind
      cases q : m env with
      | ok p1 =>
        show R.bind (R.bind (m2 p1.2) _) _ = R.bind (m2 p1.2) _
        cases q2 : m2 p1.2 <;> rfl
      | exc x => rfl
      | bad => rfl
    refine wantV_bind (G := fun F H env r => Want W B E F H env σ Q r) ag h' (fun _ _ _ _ _ _ _ l w => Want.st w l) (fun _ _ _ _ w => w) (fun _ _ _ w => w) fun as env1 F1 H1 vs l g1 r w => ?_
    refine wantV_bind (G := fun F H env r => Want W B E F H env σ Q r) g1 w (fun _ _ _ _ _ _ _ l w => Want.st w l) (fun _ _ _ _ w => w) (fun _ _ _ w => w) fun bs env2 F2 H2 zs l2 g2 r2 w2 => ?_
    by_cases hlen : bs.length = ks.length
    · rw [if_pos hlen] at w2
      exact ⟨by rw [r2.length]; exact hlen, meth_end (d := .fn ci) (v := .ref (W.cl c)) g2 (show V.ref (W.cl c) = .ref (W.fa ci) by rw [hC]) (AvsOk.append (r.le l2.le) r2) w2⟩
    · rw [if_neg hlen] at w2
      exact w2.elim
  refine cwM_plain (K := X.K) (self := .ref (W.cl c)) (first := []) k.fi (by rw [backTo_any]; exact hs) (by rw [kw_all]; exact hall) ?_
  refine thn (h1.run pos _ s1 σ H _ I1 key) fun us s2 ⟨vs, H1, I2, r1, q1⟩ => ?_
  refine thn (h2.run pos _ s2 σ H1 _ I2 q1) fun ws s3 ⟨zs, H2, I3, r2, hl, q2⟩ => ⟨⟨ClX.pin_at I3, I3.kIn⟩, ?_⟩
  rw [kw_names, hks]
  refine thn (Q := EP X ((s.heap.objs.size, methodObj (Value.ref gf) (Value.ref (W.cl c))) :: pins) σ Q) (wpAny_call (method_call (ClX.pin_at I3) (codeAny_mono (C X.A X.stack s3 H2 (.ref (W.cl c) :: us) ws (.ref (W.cl c) :: vs) zs Q E hr hg I3.env0 (.cons rfl r1) r2 (by rw [← r2.length]; exact hl) q2) fun r s' hq => ?_))) fun _ _ y => ClX.unpinE y
  cases r with
  | error e => exact hx _ σ H2 s3 e s' I3 hq
  | ok fl =>
    cases fl with
    | ret u => exact I3.after hq
    | next => exact False.elim hq
    | brk => exact False.elim hq
    | cont => exact False.elim hq
/-- cls(..), cls a local name for the class -/
def mNewL (i ci c : Nat) (g : List Sl → RF) (m : M (List Av)) : M D := fun env => match env[i]? with
  | some (.pu (.fn k)) => if k = ci then mNew c g m env else .bad
  | _ => .bad
theorem po_newL {i c ci : Nat} {fi : Addr} (hC : W.fa ci = W.cl c) (cc : Wp.InsK W.K (W.cl c)) (M : Mk X.K (W.cl c) fi) (C : CalOk X.prog X.w X.K X.mg X.base n (.ref fi) ks (spT W false g)) (hr : Room (n + 1) X.A) (hg : X.A.guards = some []) (hx : Passes (L2.CX X.prog X.w) X E) (hN : X.N[i]? = some x) (hv : Vis X.env.scope x) (hd : (x == ("__debug__" : Str)) = false) (hcd : (x == ("__classdict__" : Str)) = false)
    (ha : PCs X es kws ks (tV W B E m)) : PE X (.Call (.Name x p) es kws pos) (tO W B E (mNewL i ci c g m)) := by
  refine ⟨fun pins s σ H Q I h => ?_⟩
  obtain ⟨F, env, ag, h⟩ := h
  unfold mNewL at h
  split at h
  · rename_i k he
    split at h
    · rename_i hk
      subst hk
      obtain ⟨v, hv1, hv2⟩ := ag.pure he
      obtain rfl : v = .ref (W.fa k) := hv2
      refine PySem.wpAny_Call_Name_kw ?_
      have rd := (pe_var (pos := p) hN hv hd hcd).run pins s σ H (fun u H1 => u = .ref (W.fa k) ∧ H1 = H) I ⟨_, hv1, rfl, rfl⟩
      refine thn rd fun u s1 ⟨y, H1, I1, ry, ey, eH⟩ => ?_
      subst eH
      subst ey
      obtain rfl : u = Value.ref (W.fa k) := ry
      rw [hC]
      have h1 : tV W B E m σ H1 (fun vs H1 => ∀ x dx, H1 x = Option.none → H1 dx = Option.none → dx ≠ x → spT W false g (V.ref x :: vs) (upd (upd H1 dx (.own x)) x (.ins (W.cl c) dx [])) (fun v H2 => v = .non ∧ Q (.ref x) H2) E) :=
        wantV_bind (G := fun F H env r => WantO W B E F H env σ Q r) ag h (fun _ _ _ _ _ _ _ l w => WantO.st w l) (fun _ _ _ _ w => w) (fun _ _ _ w => w) fun as env1 F1 H1 vs l g1 r w => new_end cc g1 r w
      exact ha pos _ [] pins s1 σ H1 _ _ M.kp I1 h1 fun us ws vs zs s1 H1 I1 r1 r2 hl q => run_new M C hr hg hx I1 r1 r2 hl q
    · exact h.elim
  · exact h.elim
end
end Dl

set_option maxHeartbeats 4000000
/-! DMB: repr of data, the list of a text's signs. -/
namespace Dl
open PySem PySem.W L2 PyProof.Rows
section
variable {X : Cx} {W : Wd} {B : Bs} {E : XK}
/-! ### repr -/
def shownD (d : D) : List Nat := (toPy d).shown.cps.toList
def reprOk : D → Bool
  | .int i => decide (i.natAbs.log2 < 1920)
  | .lst xs => isPy 8 (.lst xs) && (toPy (.lst xs)).showable
  | .tup xs => isPy 8 (.tup xs) && (toPy (.tup xs)).showable
  | _ => false
def gRepr : List D → R D
  | [d] => if reprOk d = true ∧ okSb (shownD d) = true then .ok (.str (shownD d)) else .bad
  | _ => .bad
theorem repr_seq {pins : List (Addr × Obj)} {s : Shared} {σ : L2.St} {F H : Hp} {p : Addr} {u : Value} {d : D} {Q : VK} (hgd : X.A.guards = some []) (hu : X.A.units + 64 < cLine) (I : L2.Inv X pins σ H s) (bs : Le F H) (rp : Rep W F (.ref p) d) (ru : RelV (.ref p) u) (h1 : isPy 8 d = true) (h2 : (toPy d).showable = true) (h3 : (toPy d).shown.length ≤ sizeLine) (q : Q (.str (toPy d).shown) H) :
    wpAny (model X.prog X.w) X.A (call (.builtin "repr") [u]) (EP X pins σ Q) X.xe s := by
  obtain ⟨dp, lay, dep⟩ := dp_of (K := X.K) bs 8 _ _ h1 rp
  obtain ⟨as, rd⟩ := Dp.reads I (toPy d) _ _ dp ru
  obtain rfl : u = Value.ref p := ru
  refine repr_of_reads' rd h2 ?_ hgd (by omega) (fun b o e => e) (fun h' u tk kk => ?_) h3
  · exact PyData.noDict_hsm (PyData.hasDict_of_canLay (toPy d) lay)
  · exact ⟨.str _, H, I.kept (t' := tk) kk, ⟨_, rfl⟩, q⟩
theorem v_repr (hgd : X.A.guards = some []) (hu : X.A.units + 64 < cLine) : CallR X (.builtin "repr") (rVs W B E gRepr) := by
  intro pins s σ H xs us Q I r ⟨F, ds, bs, rp, o⟩
  unfold gRepr at o
  split at o
  · rename_i d
    split at o
    · rename_i hc
      obtain ⟨hc, hs⟩ := hc
      have os := okSb_of hs
      obtain ⟨v, rfl, rv⟩ := reps1 rp
      obtain ⟨u, rfl, ru⟩ := vals1 r
      have fin : Q (.str (toPy d).shown) H := out_flat bs o ⟨_, rfl, rfl, os⟩
      have hl : (toPy d).shown.length ≤ sizeLine := by
        rw [len_cps]
        exact os.2
      cases d with
      | int i =>
        obtain rfl : v = .int i := rv
        obtain ⟨t, rfl⟩ := ru
        simp only [reprOk, decide_eq_true_eq] at hc
        exact PySem.P.repr_of_int hc ⟨.str _, H, I.tok _, ⟨_, rfl⟩, fin⟩
      | lst ys =>
        simp only [reprOk, Bool.and_eq_true] at hc
        have rv0 := rv
        obtain ⟨p, vs, rfl, _⟩ := rv
        exact repr_seq hgd hu I bs.sub rv0 ru hc.1 hc.2 hl fin
      | tup ys =>
        simp only [reprOk, Bool.and_eq_true] at hc
        have rv0 := rv
        obtain ⟨p, vs, rfl, _⟩ := rv
        exact repr_seq hgd hu I bs.sub rv0 ru hc.1 hc.2 hl fin
      | _ => cases hc
    · exact o.elim
  · exact o.elim
/-! ### list(text) -/
def gListA : List D → R D
  | [.str s] => .ok (.lst (s.map fun c => .str [c]))
  | ds => gList ds
theorem v_listA (hc : X.calm = true) : CallR X (.type "list") (rVsO W B E gListA) := by
  intro pins s σ H xs us Q I r ⟨F, ds, bs, rp, o⟩
  unfold gListA at o
  split at o
  · rename_i z
    obtain ⟨v, rfl, y, rfl, rfl, ok⟩ := reps1 rp
    obtain ⟨u, rfl, t, rfl⟩ := vals1 r
    refine call_list_str (I.ok.hd hc) y t (fun h' tk acc' c' kp hS hacc => ?_) (by have := ok.2; simpa using this)
    have lz : (y.cps.toList.map fun c => V.str ⟨#[c]⟩).length ≤ sizeLine := by
      rw [List.length_map]; exact ok.2
    refine ⟨.ref s.heap.objs.size, upd H s.heap.objs.size (.lst (y.cps.toList.map fun c => V.str ⟨#[c]⟩)), I.laid kp (Nat.le_refl _) (show ObjOk X.prog X.w _ _ _ (.lst (y.cps.toList.map fun c => V.str ⟨#[c]⟩)) from ⟨lz, acc'.toList, c', ?_, by simpa using hS⟩), rfl, ?_⟩
    · refine vals_of_at (by rw [List.length_map, Array.length_toList, Array.length_toList, hacc.1]) fun j x w h1 h2 => ?_
      obtain ⟨c, u, e1, rfl⟩ := hacc.2 j w (by rw [← Array.getElem?_toList]; exact h2)
      rw [List.getElem?_map, Array.getElem?_toList, e1] at h1
      cases h1
      exact ⟨u, rfl⟩
    · refine outO_new bs o (I.hok.fresh (Nat.le_refl _)) ⟨_, upd_same, ?_⟩
      have key : ∀ l : List Nat, (∀ c ∈ l, c < 1114112) → Reps W F (l.map fun c => V.str ⟨#[c]⟩) (l.map fun c => D.str [c]) := by
        intro l
        induction l with
        | nil => intro _; exact .nil
        | cons a l ih => exact fun h => .cons ⟨_, rfl, rfl, ⟨fun c hc => by simp at hc; subst hc; exact h _ (by simp), by show 1 ≤ sizeLine; decide⟩⟩ (ih fun c hc => h c (by simp [hc]))
      exact key _ ok.1
  · exact v_list pins s σ H _ us Q I r ⟨F, _, bs, rp, o⟩
end
end Dl

set_option maxHeartbeats 4000000
/-! DMC: forms for the printer: keywords of a def without defaults, constants of the module, room for repr. -/
namespace Dl
open PySem PySem.W L2 PyProof.Rows
theorem Cd.un {W : Wd} {n : Nat} {X : Cx} {E : XK} (c : Cd W n X E) : X.A.units + 64 < cLine := by
  have := c.rm.un
  omega
theorem kb_pick {K : Frag} {x qual : Str} {params : Arguments} {body : List Stmt} {scope : Scope} {kws : List (Str × V)} {f : Addr} {fd : FuncData} {ps ks : List Str} {n : Nat} {ix : List Nat} (F : FunD K x qual params body scope [] kws f fd)
    (h : ∀ (kV doc pm : Value) (an : Option Addr) (cdv ct : Value) (us ws : List Value), us.length = n → ws.length = ks.length → bindArgs (PySem.W.fnOf x qual params body scope .none kV doc pm an cdv ct) ⟨us, ks.zip ws⟩ = pure (ps.zip (pick (us ++ ws) ix))) : KBn K fd ps n ks (fun us ws => pick (us ++ ws) ix) (fun vs zs => pick (vs ++ zs) ix) := by
  obtain ⟨oc, od, dV, kV, doc, pm, an, cdv, ct, osl, rfl, lk, hcd, hD, hK⟩ := F.ex
  rcases hD with ⟨_, rfl⟩ | ⟨e, _⟩
  · exact ⟨fun s us ws _ l1 l2 => .of_eq (h kV doc pm an cdv ct us ws l1 l2), fun r1 r2 => vals_pick (r1.append r2)⟩
  · exact absurd rfl e
section
variable {X : Cx} {W : Wd} {B : Bs} {E : XK} {x : Str} {pos : Pos}
theorem pd_gsE {z : Str} {s : List Nat} (hg : Gl X x) (hm : ∃ t, X.mg x = some (.str z t)) (hd : (x == ("__debug__" : Str)) = false) (h : z.cps.toList = s) (ok : okSb s = true) : PE X (.Name x pos) (tD W B E (M.ret (.str s))) := by
  obtain ⟨t, hm⟩ := hm
  exact pd_gs hg hm hd h ok
theorem pd_giE {i : Int} (hg : Gl X x) (hm : ∃ t, X.mg x = some (.int i t)) (hd : (x == ("__debug__" : Str)) = false) : PE X (.Name x pos) (tD W B E (M.ret (.int i))) := by
  obtain ⟨t, hm⟩ := hm
  exact pd_gi hg hm hd
end
/-! ### a name that is owned at one place and plain at another -/
def mVF (i : Nat) : M D := fun env => match env[i]? with
  | some (.pu d) => .ok (d, env)
  | some (.ow d) => .ok (d, env.set i (.pu d))
  | _ => .bad
section
variable {X : Cx} {W : Wd} {B : Bs} {E : XK} {x : Str} {pos : Pos} {i : Nat}
theorem pd_vf (hN : X.N[i]? = some x) (hv : Vis X.env.scope x) (hd : (x == ("__debug__" : Str)) = false) (hcd : (x == ("__classdict__" : Str)) = false) : PE X (.Name x pos) (tD W B E (mVF i)) := by
  refine ⟨fun pins s σ H Q I h => ?_⟩
  obtain ⟨F, env, ag, h⟩ := h
  unfold mVF at h
  cases e : env[i]? with
  | none => rw [e] at h; exact h.elim
  | some sl =>
    rw [e] at h
    cases sl with
    | pu d => exact (pd_var (W := W) (B := B) (E := E) hN hv hd hcd).run pins s σ H Q I ⟨F, env, ag, by unfold mVar; rw [e]; exact h⟩
    | ow d => exact (pd_frz (W := W) (B := B) (E := E) hN hv hd hcd).run pins s σ H Q I ⟨F, env, ag, by unfold mFrz; rw [e]; exact h⟩
    | _ => exact h.elim
end
end Dl

set_option maxHeartbeats 4000000
/-! DLX: the facts of the written part from the head's Hook. -/
namespace Dl
open PySem PySem.W L2 PyProof.Rows
/-- no two tables at one address -/
def tt1 (T : List (Addr × Str)) : Bool := T.all fun q => T.all fun r => q.1 != r.1 || decide (q.2 = r.2)
theorem tt1_ok {T : List (Addr × Str)} (h : tt1 T = true) {q r : Addr × Str} (hq : q ∈ T) (hr : r ∈ T) (e : q.1 = r.1) : q.2 = r.2 := by
  have := List.all_eq_true.mp (List.all_eq_true.mp h q hq) r hr
  rw [e] at this
  simpa using this
/-- a def's long name -/
def qn (p : He.Defn) : Str := match p.2 with
  | none => p.1
  | some m => p.1 ++ ("." : Str) ++ m
def lamN (p : He.Defn) : Str := (qn p ++ (".<locals>." : Str)) ++ ("<lambda>" : Str)
def tts (K : Frag) (tf : List He.Defn) : List (Addr × Str) := tf.map fun p => ((He.cT K p).2, lamN p)
theorem tabL_of {K : Frag} {base : Heap} {mg : Str → Option Value} {W : Wd} {nm ql : Str} {pr : Arguments} {bd : List Stmt} {sc : Scope} {dv : List V} {kd : List (Str × V)} {fd : FuncData} {p : He.Defn} {tf : List He.Defn} {n : Str} (F : FunD K nm ql pr bd sc dv kd (He.fAd K p) fd) (tb : ∀ q ∈ tf.map (He.cT K), LamX.TabB base mg q.1 q.2) (hW : W.TT = tts K tf) (ht : tt1 (tts K tf) = true) (hp : p ∈ tf) (hn : lamN p = n ++ ("<lambda>" : Str)) : TabL K base mg W fd n := by
  obtain ⟨oc, od, dV, kV, doc, pm, an, cdv, ct, osl, rfl, lk, code, _, _⟩ := F.ex
  obtain ⟨c, rfl⟩ := He.codeIn_ref code
  have e := He.codeOf_eq lk rfl
  have mem : ((He.cT K p).2, lamN p) ∈ tts K tf := List.mem_map.mpr ⟨p, hp, rfl⟩
  have t := tb _ (List.mem_map.mpr ⟨p, hp, rfl⟩)
  have e1 : (He.cT K p).1 = c := e
  rw [e1] at t
  have m1 : ((He.cT K p).2, n ++ ("<lambda>" : Str)) ∈ W.TT := by
    rw [hW]
    rw [hn] at mem
    exact mem
  have m2 : ∀ q ∈ W.TT, q.1 = (He.cT K p).2 → q.2 = n ++ ("<lambda>" : Str) := fun q hq h => by
    rw [hW] at hq
    rw [hn] at mem
    exact tt1_ok (q := q) (r := ((He.cT K p).2, n ++ ("<lambda>" : Str))) ht hq mem h
  exact ⟨c, (He.cT K p).2, rfl, t, m1, m2⟩
theorem funD_uniq {K : Frag} {nm ql : Str} {pr : Arguments} {bd : List Stmt} {sc : Scope} {dv : List V} {kd : List (Str × V)} {nm' ql' : Str} {pr' : Arguments} {bd' : List Stmt} {sc' : Scope} {dv' : List V} {kd' : List (Str × V)} {f : Addr} {fd fd' : FuncData} (F : FunD K nm ql pr bd sc dv kd f fd) (G : FunD K nm' ql' pr' bd' sc' dv' kd' f fd') : fd = fd' := by
  obtain ⟨_, _, _, _, _, _, _, _, _, _, e1, lk, _⟩ := F.ex
  obtain ⟨_, _, _, _, _, _, _, _, _, _, e2, lk', _⟩ := G.ex
  rw [lk] at lk'
  have e := congrArg Obj.data (Option.some.inj lk')
  injection e
/-- every def's object is in the written part -/
def fasB (K : Frag) (l : List (Option Addr)) (d : Addr) : Bool := (K.lookup d).isSome && l.all fun o => match o with
  | some a => (K.lookup a).isSome
  | none => true
theorem fas_ok {K : Frag} {base : Heap} (X : K.In base) {l : List (Option Addr)} {d : Addr} (h : fasB K l d = true) : ∀ i, ∃ o, base.get? (mkFa l d i) = some o := by
  unfold fasB at h
  rw [Bool.and_eq_true] at h
  have key : ∀ a, (K.lookup a).isSome = true → ∃ o, base.get? a = some o := fun a e => by
    obtain ⟨o, e⟩ := Option.isSome_iff_exists.mp e
    exact ⟨o, X _ _ e⟩
  refine mkFa_base (P := fun a => ∃ o, base.get? a = some o) (key _ h.1) fun a ha => key a ?_
  exact List.all_eq_true.mp h.2 (some a) ha
theorem mkFl_at {l : List Str} : ∀ k z, l[k]? = some z → mkFl l k = z := fun k z h => by
  unfold mkFl
  rw [h]
def binLB (K : Frag) (C : Addr) (nm : String) (f : Addr) : Bool := He.eqO (findIn K (.ref C) (PySem.dunder nm)) (some (some (.ref f))) && (isFn K (.ref f) && (match findIn K (.ref C) (PySem.dunderR nm) with
  | some (some (.builtin _)) => false
  | some _ => true
  | none => false))
theorem binLB_ok {K : Frag} {C : Addr} {nm : String} {f : Addr} (h : binLB K C nm f = true) : BinL K C nm f := by
  unfold binLB at h
  simp only [Bool.and_eq_true] at h
  obtain ⟨h1, h2, h3⟩ := h
  refine ⟨He.eqO_ok h1, h2, ?_⟩
  split at h3
  · cases h3
  · rename_i r ne e
    exact ⟨r, e, fun id q => ne id q⟩
  · cases h3
theorem all_dec {α : Type} {l : List α} {p : α → Prop} [DecidablePred p] (h : (l.all fun q => decide (p q)) = true) : ∀ q ∈ l, p q := fun q hq => of_decide_eq_true (List.all_eq_true.mp h q hq)
/-- what raising asks -/
def xcB (K : Frag) (C : Addr) (fs : List Str) (fI : Addr) : Bool := oexB K C && (xiB K C && ((fs.all fun f => He.eqO (findIn K (.ref C) f) (some none)) && (He.eqO (findIn K (.ref C) "__init__") (some (some (.ref fI))) && decide (typeIn K (.ref fI) = some (.type "function")))))
theorem xcB_ok {P : Program} {w : World} {K : Frag} {mg : Str → Option Value} {base : Heap} {W : Wd} {c : Nat} {fs : List Nat} {fl : List Str} {nm ql : Str} {pr : Arguments} {bd : List Stmt} {sc : Scope} {dv : List V} {kd : List (Str × V)} {fI : Addr} {fd : FuncData} {N ps : List Str} (hK : K = W.K) (h : xcB K (W.cl c) fl fI = true) (hf : fl = fs.map W.fl)
    (F : FunD K nm ql pr bd sc dv kd fI fd) (S : FnScope N ps sc) (hps : ps.length = fs.length + 1) (hne : fs ≠ []) (hlen : fs.length ≤ 100) (hN : N[0]? = some ("self" : Str)) (hv : Vis sc "self") (hI : InitB W N sc bd fs 1) (hb : Binds K fd ps []) : XcB P w K mg base W c fs := by
  subst hK
  unfold xcB at h
  simp only [Bool.and_eq_true, decide_eq_true_eq] at h
  obtain ⟨h1, h2, h3, h4, h5⟩ := h
  have T := oexB_ok h1
  obtain ⟨x1, x2⟩ := xiB_ok h2
  have no : ∀ f ∈ fs, findIn W.K (.ref (W.cl c)) (W.fl f) = some none := fun f hm => He.eqO_ok (List.all_eq_true.mp h3 _ (by rw [hf]; exact List.mem_map.mpr ⟨f, hm, rfl⟩))
  exact ⟨T, ⟨x1, x2, fun n hn => no n hn⟩, fI, fd, ps, He.eqO_ok h4, h5, init_ok F S hps hne hlen hN hv T no hI, hb⟩
theorem tts_ht {K : Frag} {tf : List He.Defn} : ∀ q ∈ tts K tf, ∃ p ∈ tf.map (He.cT K), p.2 = q.1 := fun q hq => by
  obtain ⟨p, hp, rfl⟩ := List.mem_map.mp hq
  exact ⟨_, List.mem_map.mpr ⟨p, hp, rfl⟩, rfl⟩
/-! ### the Hook: facts, defs, classmethods' defs, Bools, tables left out -/
abbrev AlZ : Type := (He.AlD × He.AlD) × Bool
def obsZ (n : Nat) (fa : List He.Fa) (fn : List He.DefD) (fm : List He5.DefA) (tf : List He.Defn) (l : Frag → List Bool) (g : Addr → Option Obj) : AlZ :=
  ((He.obsD fa fn (He.frT g (He5.asA g n)), He5.obsA [] fm (He.frT g (He5.asA g n))), (l (He.frT g (He5.asA g n))).all id && He.tabsB g tf (He.frT g (He5.asA g n)))
structure SaysZ (fa : List He.Fa) (fn : List He.DefD) (fm : List He5.DefA) (tf : List He.Defn) (l : Frag → List Bool) (h : Heap) (K : Frag) : Prop where
  d : He.SaysD fa fn K
  m : He5.SaysA [] fm K
  more : (l K).all id = true
  hd : ∀ p ∈ tf, codeHdIn K (He.cT K p).1 (He.cT K p).2 = true
  tb : ∀ p ∈ tf, K.lookup (He.cT K p).2 = none ∧ h.get? (He.cT K p).2 = some tabO
theorem saysZ_of {n : Nat} {fa : List He.Fa} {fn : List He.DefD} {fm : List He5.DefA} {tf : List He.Defn} {l : Frag → List Bool} {h : Heap} (e : obsZ n fa fn fm tf l h.get? = ((He.valD fn, He5.valA fm), true)) : SaysZ fa fn fm tf l h (He.frT h.get? (He5.asA h.get? n)) := by
  have e1 := congrArg (fun z : AlZ => z.1.1) e
  have e2 := congrArg (fun z : AlZ => z.1.2) e
  have e3 : ((l (He.frT h.get? (He5.asA h.get? n))).all id && He.tabsB h.get? tf (He.frT h.get? (He5.asA h.get? n))) = true := congrArg (fun z : AlZ => z.2) e
  rw [Bool.and_eq_true] at e3
  have ok : ∀ p ∈ tf, codeHdIn (He.frT h.get? (He5.asA h.get? n)) (He.cT (He.frT h.get? (He5.asA h.get? n)) p).1 (He.cT (He.frT h.get? (He5.asA h.get? n)) p).2 = true ∧ (∃ o, h.get? (He.cT (He.frT h.get? (He5.asA h.get? n)) p).2 = some o ∧ He.emptyTab o = true) := fun p hp => by
    have := List.all_eq_true.mp e3.2 p hp
    rw [Bool.and_eq_true] at this
    refine ⟨this.1, ?_⟩
    have t2 := this.2
    split at t2
    · rename_i o q
      exact ⟨o, q, t2⟩
    · cases t2
  refine ⟨e1, e2, e3.1, fun p hp => (ok p hp).1, fun p hp => ?_⟩
  obtain ⟨o, q, z⟩ := (ok p hp).2
  exact ⟨He.frT_none q z, by rw [q, He.emptyTab_eq z]⟩
def hookZ (n : Nat) (fa : List He.Fa) (fn : List He.DefD) (fm : List He5.DefA) (tf : List He.Defn) (l : Frag → List Bool) : PySem.W.Hook where
  α := AlZ
  obs := fun s => obsZ n fa fn fm tf l s.heap.get?
  val := fun _ => ((He.valD fn, He5.valA fm), true)
  says := fun _ h => ∃ K : Frag, K.In h ∧ SaysZ fa fn fm tf l h K
  of := fun _ _ e => ⟨_, He.frT_in, saysZ_of e⟩
  keeps := fun _ _ _ ⟨K, hK, c⟩ k => ⟨K, PySem.W.Frag.In.keeps hK k, ⟨c.d, c.m, c.more, c.hd, fun p hp => ⟨(c.tb p hp).1, k _ _ (c.tb p hp).2⟩⟩⟩
theorem obsZ_eq {n : Nat} {fa : List He.Fa} {fn : List He.DefD} {fm : List He5.DefA} {tf : List He.Defn} {l : Frag → List Bool} {g : Addr → Option Obj} {s : Shared} (h : ∀ a, g a = s.heap.get? a) : obsZ n fa fn fm tf l g = (hookZ n fa fn fm tf l).obs s := by
  obtain rfl : g = s.heap.get? := funext h
  rfl
theorem exAt {fa : List He.Fa} {fn : List He.DefD} {fm : List He5.DefA} {tf : List He.Defn} {l : Frag → List Bool} {h : Heap} {K : Frag} (c : SaysZ fa fn fm tf l h K) (i : Nat) {b : Bool} (e : (l K)[i]? = some b) : b = true := List.all_eq_true.mp c.more b (List.mem_of_getElem? e)
/-- the tables at the head -/
theorem tabs_at {fa : List He.Fa} {fn : List He.DefD} {fm : List He5.DefA} {tf : List He.Defn} {l : Frag → List Bool} {h : Heap} {K : Frag} (X : K.In h) (c : SaysZ fa fn fm tf l h K) : (∀ p ∈ tf.map (He.cT K), h.get? p.2 = some tabO) ∧ (∀ p ∈ tf.map (He.cT K), K.lookup p.2 = none) ∧ (∀ p ∈ tf.map (He.cT K), CodeHd h p.1 p.2) := by
  refine ⟨fun p hp => ?_, fun p hp => ?_, fun p hp => ?_⟩ <;> obtain ⟨q, hq, rfl⟩ := List.mem_map.mp hp
  · exact (c.tb q hq).2
  · exact (c.tb q hq).1
  · exact codeHd_of_K X (c.hd q hq)
/-- attributes of the class are read off it as type's -/
def creadB (K : Frag) (C : Addr) : Bool := readsIn K C (.type "type") && He.eqO (specialIn K (.ref C) "__getattribute__") (some (some (.builtin "type.__getattribute__")))
theorem creadB_ok {K : Frag} {C : Addr} (h : creadB K C = true) : ClX.CRead K C (.type "type") := by
  unfold creadB at h
  rw [Bool.and_eq_true] at h
  exact ⟨h.1, He.eqO_ok h.2⟩
def cmetB (K : Frag) (C : Addr) (m : Str) : Bool := He5.wrapB K C "classmethod" "classmethod.__get__" m && fnIn K (He5.wf K C "classmethod" m)
theorem cmetB_ok {K : Frag} {C : Addr} {m : Str} (h : cmetB K C m = true) : ∃ p, ClX.CMet K C (.type "type") m p (He5.wf K C "classmethod" m) := by
  unfold cmetB at h
  rw [Bool.and_eq_true] at h
  exact ⟨_, He5.cmet_of h.1 h.2⟩
end Dl

set_option maxHeartbeats 4000000
/-! DMD: sets of texts: how they are laid, a text put in. -/
namespace Dl
open PySem PySem.W L2 PyProof.Rows
/-- the text of an entry -/
def keyS (e : Int × Value) : Str := match e.2 with
  | .str k _ => k
  | _ => Str.empty
/-- the entries and the table of a set whose texts are xs (in some order) -/
structure Lay (P : Program) (w : World) (es : Array (Int × Value)) (t : SetTable) (xs : List Str) : Prop where
  good : ∀ e ∈ es.toList, ∃ k tk, e.2 = Value.str k tk ∧ e.1 = (strKind P w).hash k
  perm : (es.toList.map keyS).Perm xs
  nd : xs.Nodup
  sz : es.size < scanBound
  fits : t.fits es.size = true
  ris : Ris t.place.toList
  led : w.params.followText "set-order" = true ∨ t.led = true
section
variable {P : Program} {w : World} {es : Array (Int × Value)} {t : SetTable} {xs : List Str}
theorem Lay.len (L : Lay P w es t xs) : es.size = xs.length := by
  have := L.perm.length_eq
  rw [List.length_map, Array.length_toList] at this
  exact this
theorem Lay.elems (L : Lay P w es t xs) : ElemsOf (strKind P w) es.toList := fun e he => by
  obtain ⟨k, tk, h1, h2⟩ := L.good e he
  refine ⟨⟨k, ?_, h2⟩, ?_⟩
  · rw [h1]; exact strKind_is P w k tk
  · rw [h1]; rfl
theorem is_key {e : Int × Value} {k : Str} (h : ∃ j tk, e.2 = Value.str j tk ∧ e.1 = (strKind P w).hash j) : (strKind P w).is k e.2 = true ↔ keyS e = k := by
  obtain ⟨j, tk, h1, _⟩ := h
  unfold keyS
  rw [h1]
  simp [PySem.strKind, Value.isStrOf]
theorem Lay.relay (L : Lay P w es t xs) (m : Nat) : Lay P w (relayAll t es m).1 (relayAll t es m).2.1 xs := by
  have pm := relayAll_perm t es m
  have sz : (relayAll t es m).1.size = es.size := by
    have := pm.length_eq
    rwa [Array.length_toList, Array.length_toList] at this
  exact ⟨fun e he => L.good e (pm.mem_iff.mp he), (pm.map keyS).trans L.perm, L.nd, by rw [sz]; exact L.sz, relayAll_fits t es m, relayAll_ris t es m, L.led.imp id fun z => by rw [relayAll_led]; exact z⟩
theorem Lay.new (L : Lay P w es t xs) {k : Str} {tk : Tok} (nk : k ∉ xs) (room : xs.length + 1 < scanBound) : Lay P w (layNew t es ((strKind P w).hash k) (.str k tk)).1 (layNew t es ((strKind P w).hash k) (.str k tk)).2.1 (k :: xs) := by
  have pm := layNew_perm t es ((strKind P w).hash k) (.str k tk)
  rw [Array.toList_push] at pm
  have pc := pm.trans (List.perm_append_singleton _ _)
  have sz : (layNew t es ((strKind P w).hash k) (.str k tk)).1.size = xs.length + 1 := by
    have := pc.length_eq
    rw [List.length_cons, Array.length_toList, Array.length_toList, L.len] at this
    exact this
  refine ⟨fun e he => ?_, (pc.map keyS).trans (List.Perm.cons k L.perm), List.nodup_cons.mpr ⟨nk, L.nd⟩, by rw [sz]; exact room, layNew_fits t es _ _, layNew_ris t es _ _ L.ris, L.led.imp id fun z => by rw [layNew_led]; exact z⟩
  rcases List.mem_cons.mp (pc.mem_iff.mp he) with z | z
  · rw [z]; exact ⟨k, tk, rfl, rfl⟩
  · exact L.good e z
theorem Lay.dull (L : Lay P w es t xs) : Lay P w es { t with plain := false } xs := ⟨L.good, L.perm, L.nd, L.sz, SetTable.fits_plain_off L.fits, L.ris, L.led⟩
end
/-- the set at a: its texts are xs -/
def SetS (P : Program) (w : World) (h : Heap) (a : Addr) (xs : List Str) : Prop := ∃ o es ep t, h.get? a = some o ∧ o.ExactSet ∧ o.data = .set es ep t ∧ Lay P w es t xs
theorem SetS.keep {P : Program} {w : World} {h h' : Heap} {a : Addr} {xs : List Str} (R : SetS P w h a xs) (k : ∀ o, h.get? a = some o → h'.get? a = some o) : SetS P w h' a xs := by
  obtain ⟨o, es, ep, t, ho, r⟩ := R
  exact ⟨o, es, ep, t, k o ho, r⟩
section
variable {P : Program} {w : World} {A : Around} {E : Value → Shared → Prop} {s : Shared} {a : Addr} {xs : List Str}
/-- the set is written anew -/
theorem putS {o : Obj} {es es1 : Array (Int × Value)} {ep : Nat} {t t1 : SetTable} {xs1 : List Str} {Q : Unit → Shared → Prop} (ho : s.heap.get? a = some o) (hx : o.ExactSet) (hd : o.data = .set es ep t) (L : Lay P w es1 t1 xs1)
    (h : ∀ h' o1 ep1, Heap.SameBut a s.heap h' → h'.get? a = some o1 → o1.ExactSet → o1.data = .set es1 ep1 t1 → Q () { s with heap := h' }) : wpAny (model P w) A (storeSet a es1 t1) Q E s :=
  wpAny_storeSet_of ho hd (h _ _ _ (Heap.SameBut.update s.heap a (Obj.putSet es1 t1)) (store_at ho hd) hx rfl) (fits_of_scanBound L.sz)
theorem way_at (b : Bool) {s : Shared} {Q : Unit → Shared → Prop} (h : Q () s) : wpAny (model P w) A (match b with | true => rule "set.scan.the-table-gave-way" | false => pure ()) Q E s := by
  cases b
  · exact wpAny_pure h
  · exact wpAny_rule h
/-- the end of putting in: stored, and laid anew where the table is too full -/
theorem endS {g : Bool → Sem Unit} (hg : ∀ (b : Bool) (s1 : Shared) (Q : Unit → Shared → Prop), Q () s1 → wpAny (model P w) A (g b) Q E s1) {o : Obj} {es es1 : Array (Int × Value)} {ep : Nat} {t t1 : SetTable} {xs1 : List Str} {wd : Bool} {Q : Option Bool → Shared → Prop} (ho : s.heap.get? a = some o) (hx : o.ExactSet) (hd : o.data = .set es ep t) (L : Lay P w es1 t1 xs1)
    (h : ∀ h', Heap.SameBut a s.heap h' → SetS P w h' a xs1 → Q (some true) { s with heap := h' }) :
    wpAny (model P w) A (do
      storeSet a es1 t1
      if (!wd && t1.tooFull) = true then do
          g (relayAll t1 es1 (SetTable.grown es1.size)).2.2
          storeSet a (relayAll t1 es1 (SetTable.grown es1.size)).1 (relayAll t1 es1 (SetTable.grown es1.size)).2.1
          pure (some true)
        else pure (some true)) Q E s := by
  refine wpAny_bind (putS ho hx hd L fun h1 o1 ep1 sb1 ho1 hx1 hd1 => ?_)
  split
  · refine wpAny_bind (hg _ _ _ ?_)
    refine wpAny_bind (putS (s := { s with heap := h1 }) ho1 hx1 hd1 (L.relay _) fun h2 o2 ep2 sb2 ho2 hx2 hd2 => ?_)
    exact wpAny_pure (h h2 (sb1.trans sb2) ⟨o2, _, ep2, _, ho2, hx2, hd2, L.relay _⟩)
  · exact wpAny_pure (h h1 sb1 ⟨o1, _, ep1, _, ho1, hx1, hd1, L⟩)
def addS (xs : List Str) (k : Str) : List Str := if k ∈ xs then xs else k :: xs
theorem set_put {k : Str} {tk : Tok} {Q : Bool → Shared → Prop} (R : SetS P w s.heap a xs) (room : xs.length + 1 < scanBound) (hQ : ∀ b h', Heap.SameBut a s.heap h' → SetS P w h' a (addS xs k) → Q b { s with heap := h' }) :
    wpAny (model P w) A (setAddHashed a (.str k tk) ((strKind P w).hash k)) Q E s := by
  obtain ⟨o, es, ep, t, ho, hx, hd, L⟩ := R
  unfold setAddHashed setAddHashedIn
  refine wpAny_holding (wpAny_bind (wpAny_setState_of ho hd L.fits ?_))
  dsimp only
  rw [byScan_of (x := .str k tk) rfl L.sz L.elems]
  simp only [↓reduceIte]
  unfold setAddByScan
  refine wpAny_bind (wpAny_bind (wpAny_rule (wpAny_bind (wpAny_setScan_of (strKind_is P w k tk) ho hd L.fits L.elems ?_))))
  cases hf : List.findIdx? (fun e => (strKind P w).is k e.2) es.toList with
  | some j =>
    dsimp only
    obtain ⟨hj, pj, _⟩ := List.findIdx?_eq_some_iff_getElem.mp hf
    have mk : k ∈ xs := L.perm.mem_iff.mp (List.mem_map.mpr ⟨_, List.getElem_mem hj, (is_key (L.good _ (List.getElem_mem hj))).mp pj⟩)
    refine wpAny_pure (wpAny_pure (hQ _ s.heap (Heap.SameBut.refl a s.heap) ⟨o, es, ep, t, ho, hx, hd, ?_⟩))
    unfold addS
    rw [if_pos mk]
    exact L
  | none =>
    dsimp only
    have nk : k ∉ xs := fun z => by
      obtain ⟨e, he, q⟩ := List.mem_map.mp (L.perm.mem_iff.mpr z)
      have := List.findIdx?_eq_none_iff.mp hf e he
      rw [(is_key (L.good e he)).mpr q] at this
      cases this
    have ea : addS xs k = k :: xs := if_neg nk
    have L1 := L.new (tk := tk) nk room
    rw [ea] at hQ
    refine wpAny_bind (way_at _ ?_)
    generalize layNew t es ((strKind P w).hash k) (.str k tk) = Z at L1 ⊢
    obtain ⟨es1, t1, wd, gv⟩ := Z
    dsimp only at L1 ⊢
    split
    · refine wpAny_bind ?_
      rw [hashByValue_scannable 8 (x := .str k tk) rfl]
      refine wpAny_pure ?_
      refine endS (fun b s1 Q q => way_at b q) ho hx hd (xs1 := k :: xs) ?_ fun h' sb r => wpAny_pure (hQ _ h' sb r)
      first | exact L1 | exact L1.dull | (split <;> first | exact L1 | exact L1.dull)
    · refine wpAny_bind (wpAny_pure ?_)
      simp only [↓reduceIte]
      exact endS (fun b s1 Q q => way_at b q) ho hx hd L1 fun h' sb r => wpAny_pure (hQ _ h' sb r)
end
end Dl

set_option maxHeartbeats 4000000
/-! DME: set(list of texts), sorted(set), len(set). -/
namespace Dl
open PySem PySem.W L2 PyProof.Rows
def gath (val : Nat → Str) : Nat → Nat → List Str → List Str
  | _, 0, xs => xs
  | i, k + 1, xs => gath val (i + 1) k (addS xs (val i))
theorem addS_len (xs : List Str) (k : Str) : (addS xs k).length ≤ xs.length + 1 := by
  unfold addS
  split
  · omega
  · simp
theorem gath_fold (ys : List Str) (e : Str) : ∀ (k i : Nat) (xs : List Str), i + k = ys.length → gath (fun j => ys.getD j e) i k xs = (ys.drop i).foldl addS xs
  | 0, i, xs, h => by
    rw [List.drop_of_length_le (by omega)]
    rfl
  | k + 1, i, xs, h => by
    have hi : i < ys.length := by omega
    rw [gath, gath_fold ys e k (i + 1) _ (by omega), List.drop_eq_getElem_cons hi, List.foldl_cons]
    simp [List.getD, hi]
section
variable {P : Program} {w : World} {A : Around} {R : Result → Shared → Prop} {I : Addr} {fp wr : List Addr} {G : Array GenState → Array GenState → Prop} {n : Nat} {Pv : Nat → Value → Prop} {St : Nat → Shared → Prop}
theorem set_loop (W : WalksS P w A.in1 I fp wr G n Pv St) (a : Addr) (ha : a ∉ fp) (val : Nat → Str) (hv : ∀ i v, Pv i v → ∃ t, v = .str (val i) t) (hb : n + 1 < scanBound) : ∀ (k i : Nat) (s : Shared) (xs : List Str), i + k = n → xs.length ≤ i → St i s → SetS P w s.heap a xs →
    (∀ s', Moved (a :: wr) G s s' → SetS P w s'.heap a (gath val i k xs) → R (.ok (.ret .none)) s') → codeAny (model P w) A (.builtin "set.update.loop" ⟨[.ref a, .ref I], []⟩) R s := by
  have aw : a ∉ wr := fun h => ha (W.sub _ h)
  have up : ∀ b ∈ wr, b ∈ a :: wr := fun b hb => List.mem_cons_of_mem _ hb
  intro k
  induction k with
  | zero =>
    intro i s xs hk hx st hs fin
    obtain rfl : i = n := by omega
    refine codeAny_builtin F.entry_set_update_loop ?_
    rw [Around.under_plainId F.plain_set_update_loop _]
    show wpAny _ A.in1 (pyNext (.ref I) >>= _) _ _ s
    refine wpAny_bind (W.done s _ _ st fun s' hm => ?_)
    show wpAny _ A.in1 (ret Value.none) _ _ s'
    exact wpAny_pure (fin s' (hm.mono up) (hs.keep fun o e => hm.heap a o aw e))
  | succ k ih =>
    intro i s xs hk hx st hs fin
    refine codeAny_builtin F.entry_set_update_loop ?_
    rw [Around.under_plainId F.plain_set_update_loop _]
    show wpAny _ A.in1 (pyNext (.ref I) >>= _) _ _ s
    refine wpAny_bind (W.item i s _ _ (by omega) st fun v s' hP st' hm => ?_)
    obtain ⟨t, rfl⟩ := hv i v hP
    have hs' : SetS P w s'.heap a xs := hs.keep fun o e => hm.heap a o aw e
    show wpAny _ A.in1 (holding [Value.str (val i) t] (setAdd a (.str (val i) t)) >>= _) _ _ s'
    refine wpAny_bind (wpAny_holding ?_)
    unfold setAdd
    refine wpAny_holding (wpAny_bind ((PySem.strKind P w).pyHash (k := val i) (strKind_is _ _ _ _) ?_))
    refine set_put (s := { s' with toks := s'.toks + 1 }) hs' (by omega) fun b h' sb hs2 => ?_
    have same : ∀ c o, c ≠ a → s'.heap.get? c = some o → h'.get? c = some o := fun c o hc e => (sb.2 c hc).trans e
    refine wpAny_pure ⟨plainId_quiet F.plain_set_update_loop _, ih (i + 1) _ (addS xs (val i)) (by omega) (Nat.le_trans (addS_len xs _) (by omega)) (W.frame _ s' _ _ st' (Nat.le_succ _) fun c hc o e => same c o (fun z => ha (by rw [← z]; exact hc)) e) hs2 fun s2 hm2 hs3 => ?_⟩
    refine fin s2 (Moved.trans W.gtrans ((hm.mono up).then_heap (Nat.le_succ _) fun c o hc e => same c o (fun z => hc (by rw [z]; exact List.mem_cons_self)) e) hm2) hs3
end
theorem strsAt : ∀ {us : List Value} {xs : List Str}, StrsAre us xs → ∀ (i : Nat) (v : Value), us[i]? = some v → ∃ t, v = .str (xs.getD i Str.empty) t
  | _, _, .nil, i, v, h => by simp at h
  | _, _, .cons n t r, 0, v, h => by
    simp at h
    exact ⟨t, by rw [← h]; rfl⟩
  | _, _, .cons n t r, i + 1, v, h => by
    obtain ⟨t', e⟩ := strsAt r i v (by simpa using h)
    exact ⟨t', by rw [e]; rfl⟩
abbrev set0 (w : World) : Obj := { cls := .type "set", dict := none, data := .set #[] 0 (.fresh 0 0 (!w.params.followText "set-order")) }
theorem lay0 (P : Program) (w : World) : Lay P w #[] (.fresh 0 0 (!w.params.followText "set-order")) [] := by
  refine ⟨fun e he => by simp at he, .nil, List.nodup_nil, by decide, rfl, List.Pairwise.nil, ?_⟩
  show _ ∨ (!w.params.followText "set-order") = true
  cases w.params.followText "set-order"
  · exact .inr rfl
  · exact .inl rfl
section
variable {P : Program} {w : World} {A : Around} {E : Value → Shared → Prop} {s : Shared}
theorem call_setS {l : Addr} {items : Array Value} {ys : List Str} {Q : Value → Shared → Prop} (hh : A.handled = none) (hl : s.heap.IsList l items) (hi : StrsAre items.toList ys) (hb : ys.length + 1 < scanBound)
    (h : ∀ (h' : Heap) (tk : Nat), SetS P w h' s.heap.objs.size (ys.foldl addS []) → (∀ b o, s.heap.get? b = some o → h'.get? b = some o) → Q (.ref s.heap.objs.size) { s with heap := h', toks := tk }) :
    wpAny (model P w) A (call (.type "set") [.ref l]) Q E s := by
  have hsz : ys.length = items.size := by rw [← StrsAre.len_eq hi, Array.length_toList]
  obtain ⟨c, tl, hmro⟩ := F.called_set.mro
  have hmade := F.called_set.made
  have hsub := F.called_set.sub
  refine wpAny_call (codeAny_of_tree ?_)
  show wpAny _ _ (callAny (.type "set") _) _ _ _
  refine wpAny_pure ⟨Code.quiet_builtin _ (by decide +kernel), codeAny_builtin F.entry_type_call ?_⟩
  rw [Around.under_plain (weight_type_call_type "set" [.ref l] []) rfl]
  have h1 := F.called_set.notType
  have h2 := F.called_set.canCreate
  have hct := F.typeCall_set_1 (.ref l)
  repeat (any_goals (first | assumption | wp_step))
  refine codeAny_mono (code_set_led1 (.ref l) (E := E) (Q₁ := fun obj s1 => obj = .ref s.heap.objs.size ∧ s1 = { s with heap := s.heap.push (set0 w) }) ⟨rfl, rfl⟩) fun r s1 hr => ?_
  cases r with
  | error e => exact hr
  | ok fl =>
    cases fl with
    | ret obj =>
      obtain ⟨rfl, rfl⟩ := hr
      have hS : (s.heap.push (set0 w)).get? s.heap.objs.size = some (set0 w) := Heap.get?_push_size _ rfl
      have hT : Shared.TypeIs { s with heap := s.heap.push (set0 w) } (.ref s.heap.objs.size) "set" := ⟨_, hS, rfl⟩
      have hli := F.called_set.init.lookup
      have hbi := F.called_set.init.bind (.ref s.heap.objs.size)
      repeat (any_goals (first | assumption | wp_step))
      refine codeAny_mono (codeAny_call_builtin (R := wants (fun r s2 => r = .none ∧ ∃ h' tk, s2 = { s with heap := h', toks := tk } ∧ SetS P w h' s.heap.objs.size (ys.foldl addS []) ∧ (∀ b o, s.heap.get? b = some o → h'.get? b = some o)) E) F.called_set.init.plain F.entry_set_init (check_set_init_1 hT ?_)) fun r2 s2 hr2 => ?_
      · obtain ⟨ol, hol, hcl, nl, hdl⟩ := hl
        obtain ⟨ocls, odict, odata, oslots⟩ := ol
        simp only at hcl hdl
        subst hcl; subst hdl
        have hol' : (s.heap.push (set0 w)).get? l = some { cls := .type "list", dict := odict, data := .seq items nl, slots := oslots } := Heap.get?_push_of_some _ hol
        have hsls := F.sub_list_set
        have hslf := F.sub_list_frozenset
        have hne : (Value.type "list" == Value.type "dict") = false := by decide
        have hl1 : (s.heap.push (set0 w)).IsList l items := ⟨_, hol', rfl, nl, rfl⟩
        unfold Builtin.«set.__init__» noKeywords Builtin.Frozenset.updateFrom
        generalize hPI : pyIter = PI
        wp_walk
        subst hPI
        refine wpAny_pyIter_list hl1 ?_
        refine wpAny_bind (wpAny_runValue ?_)
        have lt : l < s.heap.objs.size := Heap.lt_size hol
        have big : (s.heap.push (set0 w)).objs.size = s.heap.objs.size + 1 := Heap.size_push ..
        have hh3 : A.in1.in1.in1.handled = none := by simp [hh]
        have nI : l ≠ (s.heap.push (set0 w)).objs.size := by
          rw [big]; exact Nat.ne_of_lt (Nat.lt_succ_of_lt lt)
        have nS : s.heap.objs.size ∉ [(s.heap.push (set0 w)).objs.size, l] := by
          rw [big]
          intro m
          rcases List.mem_cons.mp m with z | z
          · exact absurd z (Nat.ne_of_lt (Nat.lt_succ_self _))
          · exact absurd (List.mem_singleton.mp z) (Nat.ne_of_gt lt)
        have hval : ∀ (i : Nat) (v : Value), items[i]? = some v → ∃ t, v = .str (ys.getD i Str.empty) t := fun i v hv => strsAt hi i v (by rw [Array.getElem?_toList]; exact hv)
        refine set_loop ((Walks.list hh3 _ l nI items).toS) s.heap.objs.size nS (fun i => ys.getD i Str.empty) hval (by omega) items.size 0 _ [] (by omega) (Nat.le_refl _) ⟨⟨_, Heap.get?_push_size _ rfl, rfl, rfl⟩, (hl1.push _)⟩ ?_ ?_
        · exact ⟨set0 w, #[], 0, _, Heap.get?_push_of_some _ hS, ⟨rfl, rfl, rfl⟩, rfl, lay0 P w⟩
        · intro s' hm hs'
          obtain ⟨h', g', d', tk', os'⟩ := s'
          obtain rfl : g' = s.gens := hm.gens
          obtain rfl : d' = s.drawn := hm.drawn
          obtain rfl : os' = s.os := hm.os
          rw [gath_fold ys Str.empty items.size 0 [] (by omega)] at hs'
          show wpAny _ _ _ _ _ _
          refine wpAny_pure ?_
          show wpAny _ _ (ret Value.none) _ _ _
          refine wpAny_pure ⟨rfl, h', tk', rfl, hs', fun b o e => ?_⟩
          have hb := Heap.lt_size e
          refine hm.heap b o (fun m => ?_) (Heap.get?_push_of_some _ (Heap.get?_push_of_some _ e))
          rcases List.mem_cons.mp m with z | z
          · exact absurd z (Nat.ne_of_lt hb)
          · rw [List.mem_singleton.mp z, big] at hb
            exact absurd hb (Nat.not_lt.mpr (Nat.le_succ _))
      · cases r2 with
        | error e => exact hr2
        | ok fl2 =>
          cases fl2 with
          | ret r =>
            obtain ⟨rfl, h', tk, rfl, hs', hk'⟩ := hr2
            repeat (any_goals (first | assumption | wp_step))
            exact h _ _ hs' hk'
          | _ => exact hr2.elim
    | _ => exact hr.elim
end
end Dl

set_option maxHeartbeats 4000000
/-! DMF: sorted and len of a set of texts. -/
namespace Dl
open PySem PySem.W L2 PyProof.Rows
section
variable {P : Program} {w : World} {A : Around} {E : Value → Shared → Prop} {s : Shared} {a : Addr} {xs : List Str}
theorem sorted_setS {Q : Value → Shared → Prop} (R : SetS P w s.heap a xs) (hh : A.handled = none) (h64 : xs.length < 64)
    (hQ : ∀ (s' : Shared) (p : Addr) (out : Array Value) (c : Nat) (ys : List Str), (∀ b o, s.heap.get? b = some o → s'.heap.get? b = some o) → s'.gens = s.gens → s'.os = s.os → s.heap.objs.size ≤ p → s'.heap.get? p = some (seqObj "list" out c) → StrsAre out.toList ys → ys.Perm xs → sortedS ys = true → Q (.ref p) s') :
    wpAny (model P w) A (call (.builtin "sorted") [.ref a]) Q E s := by
  obtain ⟨o, es, ep, t, ho, hx, hd, L⟩ := R
  refine Calls.call_function_entry kind_sorted plain_sorted entry_sorted (args_sorted1 _) ?_
  unfold Builtin.«sorted»
  refine wpAny_bind (m := checkCount "sorted" 1 1 _) (wpAny_pure ?_)
  refine wpAny_bind (collect_set (A := A.in1) hh ⟨o, ho, hx.1, hd⟩ L.fits L.sz L.ris L.led fun s1 vs k1 hz g1 o1 pm => ?_)
  have lv : vs.length = xs.length := by rw [pm.length_eq, List.length_map, Array.length_toList, L.len]
  have hS : StrsAre vs (vs.map PyProof.Rows.strOf) := strsAre_map vs fun v hv => by
    obtain ⟨e, he, q⟩ := List.mem_map.mp (pm.mem_iff.mp hv)
    obtain ⟨k, tk, h1, _⟩ := L.good e he
    exact ⟨k, tk, by rw [← q, h1]⟩
  have pk : (vs.map PyProof.Rows.strOf).Perm xs := by
    have q := pm.map PyProof.Rows.strOf
    rw [List.map_map] at q
    refine q.trans (List.Perm.trans (.of_eq (List.map_congr_left fun e he => ?_)) L.perm)
    obtain ⟨k, tk, h1, _⟩ := L.good e he
    show PyProof.Rows.strOf e.2 = keyS e
    unfold keyS
    rw [h1]
    rfl
  refine wpAny_bind (wpAny_newList ?_ (by rw [lv, sizeLine_eq]; omega))
  have oL : (s1.heap.push (seqObj "list" vs.toArray 0)).get? s1.heap.objs.size = some (seqObj "list" vs.toArray 0) := Heap.get?_push_size _ rfl
  refine wpAny_bind (wpAny_holding (wpAny_call_entry slot_list_sort ⟨_, oL, rfl⟩ entry_list_sort (list_sort_treeK strKind_oneLt oL hS.keysOf (fun v1 v2 rest e => keyKind_strs (by rw [← e]; exact hS)) (by rw [lv]; exact h64) fun st hp hs => ⟨_, rfl, ?_⟩) (args_list_sort _)))
  obtain ⟨ys, a1, a2, a3⟩ := sorted_out_str hS hp hs
  obtain ⟨c, hc⟩ := sortedHeap_at (vs := vs) (out := (arrOf st).map (·.2)) oL
  refine wpAny_pure ⟨_, rfl, hQ _ s1.heap.objs.size _ c ys (fun b u e => ?_) g1 o1 hz hc a1 (a2.trans pk) a3⟩
  have q := k1 b u e
  have lt := Heap.lt_size q
  show (sortedHeap (s1.heap.push (seqObj "list" vs.toArray 0)) s1.heap.objs.size vs ((arrOf st).map (·.2))).get? b = some u
  rw [sortedHeap_old (Nat.ne_of_lt lt) (by rw [size_push']; exact Nat.lt_succ_of_lt lt)]
  exact Heap.get?_push_of_some _ q
end
/-! ### as readings -/
def SetSO (P : Program) (w : World) (a : Addr) (xs : List Str) : HO := .ext fun h => SetS P w h a xs
section
variable {X : Cx} {pins : List (Addr × Obj)} {σ : L2.St} {H : Hp} {s : Shared} {a : Addr} {xs : List Str}
theorem setS_new {P : Program} {w : World} {h : Heap} (R : SetS P w h a xs) : ObjOk P w H h a (SetSO P w a xs) := by
  have ⟨o, _, _, _, ho, _⟩ := R
  exact ⟨R, ⟨o, ho⟩, fun h1 h2 p k => SetS.keep p k⟩
theorem setS_get (I : L2.Inv X pins σ H s) (ha : H a = some (SetSO X.prog X.w a xs)) : SetS X.prog X.w s.heap a xs := (I.hok a _ ha).1
def rSetS (K : Frag) (P : Program) (w : World) : List V → Hp → VK → Prop := fun vs H Q => ∃ (l : Addr) (ys : List Str), vs = [.ref l] ∧ SqL K H l (ys.map V.str) ∧ ys.length + 1 < scanBound ∧ ∀ p, H p = none → Q (.ref p) (upd H p (SetSO P w p (ys.foldl addS [])))
theorem cr_setS (hc : X.calm = true) : CallR X (.type "set") (rSetS X.K X.prog X.w) := by
  intro pins s σ H vs us Q I r h
  obtain ⟨l, ys, rfl, hl, hb, q⟩ := h
  obtain ⟨its, rv, pl, hz⟩ := I.list hl
  rw [Vals.ref1 r]
  refine call_setS (I.ok.hd hc) pl.isList (by simpa using rv.strs) hb fun h' tk hS kp => ?_
  exact ⟨.ref _, _, I.laid (t' := tk) kp (Nat.le_refl _) (setS_new hS), rfl, q _ (I.hok.fresh (Nat.le_refl _))⟩
def rSortS (P : Program) (w : World) : List V → Hp → VK → Prop := fun vs H Q => ∃ (a : Addr) (xs : List Str), vs = [.ref a] ∧ H a = some (SetSO P w a xs) ∧ xs.length < 64 ∧ ∀ (ys : List Str) (p : Addr), ys.Perm xs → sortedS ys = true → H p = none → Q (.ref p) (upd H p (.lst (ys.map V.str)))
theorem cr_sortS (hc : X.calm = true) : CallR X (.builtin "sorted") (rSortS X.prog X.w) := by
  intro pins s σ H vs us Q I r h
  obtain ⟨a, xs, rfl, ha, h64, q⟩ := h
  rw [Vals.ref1 r]
  refine sorted_setS (setS_get I ha) (I.ok.hd hc) h64 fun s' p out c ys k g o hp hg hi pm hs => ?_
  have hlen : (ys.map V.str).length ≤ sizeLine := by rw [List.length_map, pm.length_eq, sizeLine_eq]; omega
  have hn : H p = none := I.hok.fresh hp
  have J : L2.Inv X pins σ (upd H p (.lst (ys.map V.str))) { s with heap := s'.heap, gens := s'.gens, drawn := s'.drawn, toks := s'.toks } :=
    I.call (ch := []) (Un.laid k hp hn) (I.hok.laid k hp ⟨hlen, out.toList, c, vals_of_strs hi, hg⟩) (by rw [g]; exact I.bare) (fun _ z => nomatch z)
  have e : s' = { s with heap := s'.heap, gens := s'.gens, drawn := s'.drawn, toks := s'.toks } := by
    cases s'; cases s; cases o; rfl
  rw [e]
  exact ⟨.ref p, _, J, rfl, q ys p pm hs hn⟩
def rLenS (P : Program) (w : World) : List V → Hp → VK → Prop := fun vs H Q => ∃ (a : Addr) (xs : List Str), vs = [.ref a] ∧ H a = some (SetSO P w a xs) ∧ Q (.int xs.length) H
theorem cr_lenS : CallR X (.builtin "len") (rLenS X.prog X.w) := by
  intro pins s σ H vs us Q I r h
  obtain ⟨a, xs, rfl, ha, q⟩ := h
  rw [Vals.ref1 r]
  obtain ⟨o, es, ep, t, ho, hx, hd, L⟩ := setS_get I ha
  have hn := L.len
  refine call_len_set ho hx hd L.fits (by have := L.sz; unfold scanBound at this; omega) ⟨.int xs.length, H, I.tok _, ⟨_, by rw [hn]⟩, q⟩
end
end Dl

set_option maxHeartbeats 4000000
/-! DMG: sorted(set(texts)), len(set(texts)), sorted(texts) over plain data. -/
namespace Dl
open PySem PySem.W L2 PyProof.Rows
/-! ### texts in order -/
def insL (a : List Nat) : List (List Nat) → List (List Nat)
  | [] => [a]
  | b :: l => if b < a then b :: insL a l else a :: b :: l
def sortL : List (List Nat) → List (List Nat)
  | [] => []
  | a :: l => insL a (sortL l)
theorem insL_perm (a : List Nat) : ∀ l, (insL a l).Perm (a :: l)
  | [] => .refl _
  | b :: l => by
    unfold insL
    split
    · exact (List.Perm.cons b (insL_perm a l)).trans (List.Perm.swap a b l)
    · exact .refl _
theorem sortL_perm : ∀ l, (sortL l).Perm l
  | [] => .refl _
  | a :: l => (insL_perm a (sortL l)).trans (List.Perm.cons a (sortL_perm l))
theorem le_tr {a b c : List Nat} (h1 : a ≤ b) (h2 : b ≤ c) : a ≤ c := List.le_trans h1 h2
theorem insL_ord (a : List Nat) : ∀ l, l.Pairwise (· ≤ ·) → (insL a l).Pairwise (· ≤ ·)
  | [], _ => by simp [insL]
  | b :: l, h => by
    unfold insL
    obtain ⟨h1, h2⟩ := List.pairwise_cons.mp h
    split
    · rename_i lt
      refine List.pairwise_cons.mpr ⟨fun c hc => ?_, insL_ord a l h2⟩
      rcases List.mem_cons.mp ((insL_perm a l).mem_iff.mp hc) with rfl | hc
      · exact List.le_of_lt lt
      · exact h1 c hc
    · rename_i ge
      have ab : a ≤ b := List.not_lt.mp ge
      refine List.pairwise_cons.mpr ⟨fun c hc => ?_, h⟩
      rcases List.mem_cons.mp hc with rfl | hc
      · exact ab
      · exact le_tr ab (h1 c hc)
theorem sortL_ord : ∀ l, (sortL l).Pairwise (· ≤ ·)
  | [] => .nil
  | a :: l => insL_ord a _ (sortL_ord l)
theorem ord_uniq : ∀ (l1 l2 : List (List Nat)), l1.Perm l2 → l1.Pairwise (· ≤ ·) → l2.Pairwise (· ≤ ·) → l1 = l2
  | [], l2, p, _, _ => by rw [List.nil_perm.mp p]
  | a :: l1, [], p, _, _ => by simp at p
  | a :: l1, b :: l2, p, h1, h2 => by
    obtain ⟨a1, a2⟩ := List.pairwise_cons.mp h1
    obtain ⟨b1, b2⟩ := List.pairwise_cons.mp h2
    have ab : a = b := by
      have ma : a ∈ b :: l2 := p.mem_iff.mp List.mem_cons_self
      have mb : b ∈ a :: l1 := p.mem_iff.mpr List.mem_cons_self
      rcases List.mem_cons.mp ma with e | ma
      · exact e
      · rcases List.mem_cons.mp mb with e | mb
        · exact e.symm
        · exact List.le_antisymm (a1 b mb) (b1 a ma)
    subst ab
    rw [ord_uniq l1 l2 ((List.perm_cons a).mp p) a2 b2]
theorem rising_ord : ∀ (r : List Str) (p : Str), risingS p r = true → ((p :: r).map fun x => x.cps.toList).Pairwise (· ≤ ·)
  | [], p, _ => by simp
  | x :: r, p, h => by
    simp only [risingS, Bool.and_eq_true, Bool.not_eq_true'] at h
    have ih := rising_ord r x h.2
    have px : p.cps.toList ≤ x.cps.toList := by
      have := h.1
      rw [ltCps_eq] at this
      exact List.not_lt.mp (of_decide_eq_false this)
    rw [List.map_cons] at ih ⊢
    refine List.pairwise_cons.mpr ⟨fun c hc => ?_, ih⟩
    rcases List.mem_cons.mp hc with rfl | hc
    · exact px
    · exact le_tr px ((List.pairwise_cons.mp ih).1 c hc)
theorem sortedS_ord {ys : List Str} (h : sortedS ys = true) : (ys.map fun x => x.cps.toList).Pairwise (· ≤ ·) := by
  cases ys with
  | nil => exact .nil
  | cons y ys => exact rising_ord ys y h
/-- what is sorted is told -/
theorem sorted_eq {ys zs : List Str} (p : ys.Perm zs) (h : sortedS ys = true) : (ys.map fun x => x.cps.toList) = sortL (zs.map fun x => x.cps.toList) :=
  ord_uniq _ _ ((p.map _).trans (sortL_perm _).symm) (sortedS_ord h) (sortL_ord _)
/-! ### texts, each once -/
def addL (xs : List (List Nat)) (k : List Nat) : List (List Nat) := if k ∈ xs then xs else k :: xs
theorem cps_inj {x y : Str} (h : x.cps.toList = y.cps.toList) : x = y := by
  obtain ⟨⟨a⟩⟩ := x
  obtain ⟨⟨b⟩⟩ := y
  simp only at h
  rw [h]
theorem addS_map (xs : List Str) (k : Str) : (addS xs k).map (fun x => x.cps.toList) = addL (xs.map fun x => x.cps.toList) k.cps.toList := by
  unfold addS addL
  by_cases h : k ∈ xs
  · rw [if_pos h, if_pos (List.mem_map.mpr ⟨k, h, rfl⟩)]
  · rw [if_neg h, if_neg fun z => by
      obtain ⟨y, hy, e⟩ := List.mem_map.mp z
      exact h (cps_inj e ▸ hy)]
    rfl
theorem fold_map : ∀ (ys xs : List Str), (ys.foldl addS xs).map (fun x => x.cps.toList) = (ys.map fun x => x.cps.toList).foldl addL (xs.map fun x => x.cps.toList)
  | [], xs => rfl
  | y :: ys, xs => by
    rw [List.foldl_cons, fold_map ys (addS xs y), addS_map]
    rfl
def onceL (ss : List (List Nat)) : List (List Nat) := ss.foldl addL []
theorem addS_fold_len : ∀ (ys xs : List Str), (ys.foldl addS xs).length ≤ xs.length + ys.length
  | [], xs => by simp
  | y :: ys, xs => by
    have := addS_fold_len ys (addS xs y)
    have := addS_len xs y
    simp only [List.foldl_cons, List.length_cons]
    omega
/-! ### over plain data -/
section
variable {W : Wd} {F : Hp}
def strsD : List D → Option (List (List Nat))
  | [] => some []
  | .str s :: ds => (strsD ds).map (s :: ·)
  | _ :: _ => none
theorem strs_of : ∀ {ds : List D} {vs : List V} {ss : List (List Nat)}, Reps W F vs ds → strsD ds = some ss → ∃ zs : List Str, vs = zs.map V.str ∧ (zs.map fun x => x.cps.toList) = ss ∧ ∀ x ∈ ss, okS x
  | [], vs, ss, r, e => by
    cases e
    exact ⟨[], show vs = [] from r, rfl, by simp⟩
  | d :: ds, vs, ss, r, e => by
    obtain ⟨v, t, rfl, rv, rt⟩ := r
    cases d with
    | str s =>
      obtain ⟨z, rfl, hz, ok⟩ := rv
      cases e2 : strsD ds with
      | none => simp [strsD, e2] at e
      | some ss2 =>
        simp only [strsD, e2, Option.map_some, Option.some.injEq] at e
        subst e
        obtain ⟨zs, rfl, h1, h2⟩ := strs_of rt e2
        refine ⟨z :: zs, rfl, by rw [List.map_cons, hz, h1], fun x hx => ?_⟩
        rcases List.mem_cons.mp hx with rfl | hx
        · exact ok
        · exact h2 x hx
    | _ => cases e
theorem reps_strs : ∀ (ys : List Str), (∀ y ∈ ys, okS y.cps.toList) → Reps W F (ys.map V.str) ((ys.map fun x => x.cps.toList).map D.str)
  | [], _ => .nil
  | y :: ys, h => .cons ⟨y, rfl, rfl, h y (by simp)⟩ (reps_strs ys fun z hz => h z (by simp [hz]))
end
/-- sorted(set(texts)) -/
def gSortSet : D → R D
  | .lst ds => (match strsD ds with
    | some ss => if ss.length < 64 then .ok (.lst ((sortL (onceL ss)).map D.str)) else .bad
    | none => .bad)
  | _ => .bad
def gLenSet : D → R D
  | .lst ds => (match strsD ds with
    | some ss => if ss.length < 64 then .ok (.int (onceL ss).length) else .bad
    | none => .bad)
  | _ => .bad
section
variable {X : Cx} {W : Wd} {B : Bs} {E : XK} {a : Expr} {f : M D} {p p2 q pos : Pos}
theorem once_mem {ss : List (List Nat)} : ∀ x ∈ onceL ss, x ∈ ss := by
  have key : ∀ (ss acc : List (List Nat)) (x : List Nat), x ∈ ss.foldl addL acc → x ∈ acc ∨ x ∈ ss := by
    intro ss
    induction ss with
    | nil => exact fun acc x h => .inl h
    | cons s ss ih =>
      intro acc x h
      rcases ih (addL acc s) x h with h | h
      · unfold addL at h
        split at h
        · exact .inl h
        · rcases List.mem_cons.mp h with rfl | h
          · exact .inr List.mem_cons_self
          · exact .inl h
      · exact .inr (List.mem_cons_of_mem _ h)
  intro x h
  rcases key ss [] x h with h | h
  · simp at h
  · exact h
theorem tset_of {σ : L2.St} {H : Hp} {r : List V → Hp → VK → Prop} {Q : VK} {ds : List D} {ss : List (List Nat)} {F : Hp} {v : V} (bs : Le F H) (rv : Rep W F v (.lst ds)) (e : strsD ds = some ss) (h64 : ss.length < 64)
    (h : ∀ (zs : List Str) (p1 : Addr), (zs.map fun x => x.cps.toList) = ss → (∀ x ∈ ss, okS x) → H p1 = none → r [.ref p1] (upd H p1 (SetSO X.prog X.w p1 (zs.foldl addS []))) Q) : rSetS X.K X.prog X.w [v] H (fun u H2 => r [u] H2 Q) := by
  obtain ⟨l, vs, rfl, hl, rs⟩ := rv
  obtain ⟨zs, rfl, hz, ok⟩ := strs_of rs e
  have len : zs.length = ss.length := by rw [← hz, List.length_map]
  exact ⟨l, zs, rfl, SqL.of (bs _ _ hl), by rw [len]; unfold scanBound; omega, fun p1 n1 => h zs p1 hz ok n1⟩
theorem po_sortSet (hc : X.calm = true) (hg : Gl X "sorted") (hm : X.mg "sorted" = none) (hg2 : Gl X "set") (hm2 : X.mg "set" = none) (ha : PE X a (tD W B E f)) (hs : isStar a = false) : PE X (.Call (.Name "sorted" p) [.Call (.Name "set" p2) [a] [] q] [] pos) (tO W B E (m1 gSortSet f)) := by
  refine PE.imp (pe_callB (cr_sortS hc) hg hm rfl (pa_cons (pe_callTy (cr_setS hc) hg2 hm2 rfl (pa_cons ha pa_nil (starEach_of hs)) (he := starEach_of hs)) pa_nil)) fun σ H Q ⟨F, env, ag, h⟩ => ?_
  show tD W B E f σ H (fun v H1 => rSetS X.K X.prog X.w [v] H1 fun u H2 => rSortS X.prog X.w [u] H2 Q)
  refine wantE_bind (G := fun F H env r => WantO W B E F H env σ Q r) ag h (fun _ _ _ _ _ _ _ l w => WantO.st w l) (fun _ _ _ _ w => w) (fun _ _ _ w => w) fun d env1 F1 H1 v l g1 r w => ?_
  have o := wantO_lift g1 w
  unfold gSortSet at o
  split at o
  · rename_i ds
    split at o
    · rename_i ss e
      split at o
      · rename_i h64
        refine tset_of (r := rSortS X.prog X.w) (σ := σ) g1.sub r e h64 fun zs p1 hz ok n1 => ?_
        have len : zs.length = ss.length := by rw [← hz, List.length_map]
        have fl := addS_fold_len zs []
        refine ⟨p1, zs.foldl addS [], rfl, upd_same, by simp at fl; omega, fun ys p2 pm hso n2 => ?_⟩
        have st1 := PStep.al (o := SetSO X.prog X.w p1 (zs.foldl addS [])) g1.sub g1.tabs n1
        have g2 := g1.step st1
        have st2 := PStep.al (o := .lst (ys.map V.str)) g2.sub g2.tabs n2
        have nf : F1 p2 = none := by
          cases q : F1 p2 with
          | none => rfl
          | some z => rw [g2.sub _ _ q] at n2; cases n2
        have ho : H1 p2 = none := st1.free n2
        refine o F1 _ p2 (st1.trans0 st2) ho nf ⟨ys.map V.str, upd_same, ?_⟩
        have key : (ys.map fun x => x.cps.toList) = sortL (onceL ss) := by
          rw [sorted_eq pm hso, fold_map, hz]
          rfl
        rw [← key]
        refine reps_strs ys fun y hy => ok _ (once_mem _ ((sortL_perm _).mem_iff.mp ?_))
        rw [← key]
        exact List.mem_map.mpr ⟨y, hy, rfl⟩
      · exact o.elim
    · exact o.elim
  · exact o.elim
theorem pd_lenSet (hc : X.calm = true) (hg : Gl X "len") (hm : X.mg "len" = none) (hg2 : Gl X "set") (hm2 : X.mg "set" = none) (ha : PE X a (tD W B E f)) (hs : isStar a = false) : PE X (.Call (.Name "len" p) [.Call (.Name "set" p2) [a] [] q] [] pos) (tD W B E (m1 gLenSet f)) := by
  refine PE.imp (pe_callB cr_lenS hg hm rfl (pa_cons (pe_callTy (cr_setS hc) hg2 hm2 rfl (pa_cons ha pa_nil (starEach_of hs)) (he := starEach_of hs)) pa_nil)) fun σ H Q ⟨F, env, ag, h⟩ => ?_
  show tD W B E f σ H (fun v H1 => rSetS X.K X.prog X.w [v] H1 fun u H2 => rLenS X.prog X.w [u] H2 Q)
  refine want_bind ag h fun d env1 F1 H1 v l g1 r w => ?_
  have o := want_lift g1 w
  unfold gLenSet at o
  split at o
  · rename_i ds
    split at o
    · rename_i ss e
      split at o
      · rename_i h64
        refine tset_of (r := rLenS X.prog X.w) (σ := σ) g1.sub r e h64 fun zs p1 hz ok n1 => ?_
        have st1 := PStep.al (o := SetSO X.prog X.w p1 (zs.foldl addS [])) g1.sub g1.tabs n1
        refine ⟨p1, zs.foldl addS [], rfl, upd_same, o F1 _ _ st1 ?_⟩
        have key := congrArg List.length (fold_map zs [])
        rw [List.length_map, hz] at key
        show V.int _ = V.int _
        rw [key]
        rfl
      · exact o.elim
    · exact o.elim
  · exact o.elim
end
end Dl

set_option maxHeartbeats 4000000
/-! DMH: sorted(texts), len(set(ints)). -/
namespace Dl
open PySem PySem.W L2 PyProof.Rows
def gSortT : List D → R D
  | [.lst ds] => (match strsD ds with
    | some ss => if ss.length < 64 then .ok (.lst ((sortL ss).map D.str)) else .bad
    | none => .bad)
  | _ => .bad
section
variable {X : Cx} {W : Wd} {B : Bs} {E : XK}
theorem v_sortT : CallR X (.builtin "sorted") (rVsO W B E gSortT) := by
  intro pins s σ H xs us Q I r ⟨F, ds, bs, rp, o⟩
  unfold gSortT at o
  split at o
  · rename_i es
    split at o
    · rename_i ss e
      split at o
      · rename_i h64
        obtain ⟨v, rfl, l, vs, rfl, hl, rs⟩ := reps1 rp
        obtain ⟨zs, rfl, hz, ok⟩ := strs_of rs e
        have len : zs.length = ss.length := by rw [← hz, List.length_map]
        refine cr_sortedS pins s σ H _ us Q I r ⟨l, zs, rfl, SqL.of (bs.sub _ _ hl), by omega, fun ys p pm hso n => outO_new bs o n ⟨ys.map V.str, upd_same, ?_⟩⟩
        have key : (ys.map fun x => x.cps.toList) = sortL ss := by rw [sorted_eq pm hso, hz]
        rw [← key]
        refine reps_strs ys fun y hy => ok _ ((sortL_perm ss).mem_iff.mp ?_)
        rw [← key]
        exact List.mem_map.mpr ⟨y, hy, rfl⟩
      · exact o.elim
    · exact o.elim
  · exact o.elim
end
/-! ### len(set(..)) of whole numbers -/
def SetIO (P : Program) (w : World) (a : Addr) (n : Nat) : HO := .ext fun h => ∃ S, h.SetOf (PySem.intKind P w) a S n
theorem setI_keep {P : Program} {w : World} {h h' : Heap} {a : Addr} {n : Nat} (R : ∃ S, h.SetOf (PySem.intKind P w) a S n) (k : ∀ o, h.get? a = some o → h'.get? a = some o) : ∃ S, h'.SetOf (PySem.intKind P w) a S n := by
  obtain ⟨S, o, es, ep, t, ho, r⟩ := R
  exact ⟨S, o, es, ep, t, k o ho, r⟩
def onceN (ns : List Int) : Nat := (ns.foldl step_dedup []).length
theorem met_once (ns : List Int) : (firstMet (fun i => ns.getD i 0) ns.length).length = onceN ns := by
  unfold firstMet onceN
  have : (List.range ns.length).map (fun i => ns.getD i 0) = ns := by
    apply List.ext_getElem
    · simp
    · intro i h1 h2
      simp [List.getD, h2]
  rw [this]
def intsD : List D → Option (List Int)
  | [] => some []
  | .int i :: ds => (intsD ds).map (i :: ·)
  | _ :: _ => none
section
variable {X : Cx} {W : Wd} {B : Bs} {E : XK} {a : Expr} {f : M D} {p p2 q pos : Pos}
theorem intsD_of {F : Hp} : ∀ {ds : List D} {vs : List V} {ns : List Int}, Reps W F vs ds → intsD ds = some ns → vs = ns.map V.int
  | [], vs, ns, r, e => by
    cases e
    exact r
  | d :: ds, vs, ns, r, e => by
    obtain ⟨v, t, rfl, rv, rt⟩ := r
    cases d with
    | int i =>
      obtain rfl : v = .int i := rv
      cases e2 : intsD ds with
      | none => simp [intsD, e2] at e
      | some m =>
        simp only [intsD, e2, Option.map_some, Option.some.injEq] at e
        subst e
        rw [intsD_of rt e2]
        rfl
    | _ => cases e
def rSetI (K : Frag) (P : Program) (w : World) : List V → Hp → VK → Prop := fun vs H Q => ∃ (l : Addr) (ns : List Int), vs = [.ref l] ∧ SqL K H l (ns.map V.int) ∧ ns.length + 1 < scanBound ∧ ∀ p, H p = none → Q (.ref p) (upd H p (SetIO P w p (onceN ns)))
theorem cr_setI (hc : X.calm = true) : CallR X (.type "set") (rSetI X.K X.prog X.w) := by
  intro pins s σ H vs us Q I r h
  obtain ⟨l, ns, rfl, hl, hb, q⟩ := h
  obtain ⟨its, rv, pl, hz⟩ := I.list hl
  rw [Vals.ref1 r]
  have hi := rv.ints
  have len : its.toArray.size = ns.length := by rw [List.size_toArray, ← rv.length, List.length_map]
  refine call_set_list (I.ok.hd hc) pl.isList (by simpa using hi) (by rw [len]; exact hb) fun h' tk hS kp => ?_
  rw [len, met_once] at hS
  have ok : ObjOk X.prog X.w (upd H s.heap.objs.size (SetIO X.prog X.w s.heap.objs.size (onceN ns))) h' s.heap.objs.size (SetIO X.prog X.w s.heap.objs.size (onceN ns)) := by
    have ⟨o, _, _, _, ho, _⟩ := hS
    exact ⟨⟨_, hS⟩, ⟨o, ho⟩, fun h1 h2 p k => setI_keep p k⟩
  exact ⟨.ref _, _, I.laid (t' := tk) (fun b o e => kp b o (Heap.lt_size e) e) (Nat.le_refl _) ok, rfl, q _ (I.hok.fresh (Nat.le_refl _))⟩
def rLenI (P : Program) (w : World) : List V → Hp → VK → Prop := fun vs H Q => ∃ (a : Addr) (n : Nat), vs = [.ref a] ∧ H a = some (SetIO P w a n) ∧ Q (.int n) H
theorem cr_lenI : CallR X (.builtin "len") (rLenI X.prog X.w) := by
  intro pins s σ H vs us Q I r h
  obtain ⟨a, n, rfl, ha, q⟩ := h
  rw [Vals.ref1 r]
  obtain ⟨S, o, es, ep, t, ho, hx, hd, _, _, hb, hf, hn⟩ := (I.hok a _ ha).1
  exact call_len_set ho hx hd hf (by unfold scanBound at hb; omega) ⟨.int n, H, I.tok _, ⟨_, by rw [hn]⟩, q⟩
def gLenSetI : D → R D
  | .lst ds => (match intsD ds with
    | some ns => if ns.length < 64 then .ok (.int (onceN ns)) else .bad
    | none => .bad)
  | _ => .bad
theorem pd_lenSetI (hc : X.calm = true) (hg : Gl X "len") (hm : X.mg "len" = none) (hg2 : Gl X "set") (hm2 : X.mg "set" = none) (ha : PE X a (tD W B E f)) (hs : isStar a = false) : PE X (.Call (.Name "len" p) [.Call (.Name "set" p2) [a] [] q] [] pos) (tD W B E (m1 gLenSetI f)) := by
  refine PE.imp (pe_callB cr_lenI hg hm rfl (pa_cons (pe_callTy (cr_setI hc) hg2 hm2 rfl (pa_cons ha pa_nil (starEach_of hs)) (he := starEach_of hs)) pa_nil)) fun σ H Q ⟨F, env, ag, h⟩ => ?_
  show tD W B E f σ H (fun v H1 => rSetI X.K X.prog X.w [v] H1 fun u H2 => rLenI X.prog X.w [u] H2 Q)
  refine want_bind ag h fun d env1 F1 H1 v l g1 r w => ?_
  have o := want_lift g1 w
  unfold gLenSetI at o
  split at o
  · rename_i ds
    split at o
    · rename_i ns e
      split at o
      · rename_i h64
        obtain ⟨l, vs, rfl, hl, rs⟩ := r
        obtain rfl := intsD_of rs e
        refine ⟨l, ns, rfl, SqL.of (g1.sub _ _ hl), by unfold scanBound; omega, fun p1 n1 => ⟨p1, onceN ns, rfl, upd_same, ?_⟩⟩
        exact o F1 _ _ (PStep.al g1.sub g1.tabs n1) rfl
      · exact o.elim
    · exact o.elim
  · exact o.elim
end
end Dl

set_option maxHeartbeats 4000000
/-! DMI: a def with a star parameter behind one other: def f(a, *v). -/
namespace Dl
open PySem PySem.W L2 PyProof.Rows
theorem PStep.weak {W : Wd} {A : List Addr} {F H F' H' : Hp} (p : PStep W [] F H F' H') : PStep W A F H F' H' := ⟨p.le, p.sub, fun a o h _ t => p.old a o h (by simp) t, p.new, p.trk, p.tabs⟩
/-- the plain things of an argument list -/
def pusD : List Sl → Option (List D)
  | [] => some []
  | .pu d :: as => (pusD as).map (d :: ·)
  | _ :: _ => none
/-- f(a, ..): what is left over is a tuple -/
def starG (g : List Sl → RF) (as : List Sl) : RF := match as with
  | s :: rest => (match pusD rest with
    | some ds => if ds.length ≤ sizeLine then g [s, .pu (.tup ds)] else .bad
    | none => .bad)
  | [] => .bad
section
variable {W : Wd} {F H : Hp}
theorem pus_of : ∀ {as : List Sl} {vs : List V} {ds : List D}, ArgsOk W F H vs as → pusD as = some ds → Reps W F vs ds ∧ adr vs as = []
  | [], [], ds, _, e => by cases e; exact ⟨.nil, rfl⟩
  | [], _ :: _, ds, h, e => h.elim
  | s :: as, vs, ds, h, e => by
    cases s with
    | pu d =>
      cases vs with
      | nil => exact h.elim
      | cons v vs =>
        obtain ⟨h1, h2⟩ := h
        cases e2 : pusD as with
        | none => simp [pusD, e2] at e
        | some ds2 =>
          simp only [pusD, e2, Option.map_some, Option.some.injEq] at e
          subst e
          obtain ⟨r, a⟩ := pus_of h2 e2
          refine ⟨.cons h1 r, ?_⟩
          cases v <;> simp [adr, a]
    | _ => cases e
theorem adr_two {v0 : V} {s0 : Sl} {vs : List V} {as : List Sl} {v1 : V} {d : D} (h : adr vs as = []) : adr (v0 :: vs) (s0 :: as) = adr [v0, v1] [s0, .pu d] := by
  cases v0 <;> cases s0 <;> cases v1 <;> simp [adr, h]
theorem args_head {v0 : V} {s0 : Sl} {vs : List V} {as : List Sl} {F' H' : Hp} {v1 : V} {d : D} (h : ArgsOk W F H (v0 :: vs) (s0 :: as)) (ha : adr vs as = []) (l : Le F F') (n : ∀ a, H a ≠ none → F' a = F a) (o : ∀ a u, H a = some u → H' a = some u) (r : Rep W F' v1 d) : ArgsOk W F' H' [v0, v1] [s0, .pu d] := by
  cases s0 with
  | pu d0 => exact ⟨h.1.le l, r, trivial⟩
  | ow d0 =>
    obtain ⟨⟨a, rfl, f, ow, na⟩, _⟩ := h
    obtain ⟨u, hu, _⟩ := ow.trk
    refine ⟨⟨a, rfl, (n a (by rw [hu]; simp)).trans f, ow.le l fun u q _ => o a u q, ?_⟩, r, trivial⟩
    cases v1 <;> simp [adr]
  | _ => exact h.elim
end
theorem cal_star1 {P : Program} {w : World} {K : Frag} {mg : Str → Option Value} {base : Heap} {nm ql : Str} {pr : Arguments} {bd : List Stmt} {sc : Scope} {kd : List (Str × V)} {f : Addr} {fd : FuncData} {N : List Str} {k : Nat} {W : Wd} {m : MS} {p1 pv : Str}
    (F : FunD K nm ql pr bd sc [] kd f fd) (S : FnScope N [p1, pv] sc)
    (hbd : ∀ (kV doc pm : Value) (an : Option Addr) (cdv ct : Value) (us rest : List Value), us.length = [p1].length → bindArgs (PySem.W.fnOf nm ql pr bd sc .none kV doc pm an cdv ct) ⟨us ++ rest, []⟩ = (newTuple rest >>= fun t => pure ([p1].zip us ++ [(pv, t)])))
    (hb : ∀ (cdv : Value) (A : Around) (out : List PySem.Env) (z : Shared) (H0 : Hp) (B : Bs) (E : XK), Room k (A.deeper (envOfC ql sc z.heap.objs.size f cdv)) → (A.deeper (envOfC ql sc z.heap.objs.size f cdv)).guards = some [] →
      PSs (cxOf (L2.CX P w) P w K mg base N ql sc f cdv A out z H0 E) bd (tS W B E false m)) : CalOk P w K mg base (k + 1) (.ref f) [] (spT W false (starG (runB 2 N.length false m))) := by
  obtain ⟨oc, od, dV, kV, doc, pm, an, cdv, ct, osl, rfl, lk, code, hD, _⟩ := F.ex
  rcases hD with ⟨_, rfl⟩ | ⟨e, _⟩
  case inr => exact absurd rfl e
  intro A out s H us ws vs zs Q E hr gd e0 r rz hl h
  cases ws with
  | cons _ _ => cases hl
  | nil =>
    cases rz
    rw [List.append_nil] at h
    obtain ⟨F0, args, sb, tb, ao, h⟩ := h
    unfold starG at h
    cases args with
    | nil => exact h.elim
    | cons s0 rest =>
      cases vs with
      | nil => cases s0 <;> exact ao.elim
      | cons v0 vs =>
        simp only at h
        cases e : pusD rest with
        | none => rw [e] at h; exact h.elim
        | some ds =>
          rw [e] at h
          simp only at h
          by_cases hz : ds.length ≤ sizeLine
          case neg => rw [if_neg hz] at h; exact h.elim
          rw [if_pos hz] at h
          have ar : ArgsOk W F0 H vs rest := by
            cases s0 with
            | pu d => exact ao.2
            | ow d => exact ao.2
            | _ => exact ao.elim
          obtain ⟨rs, ad⟩ := pus_of ar e
          cases r with
          | cons r0 r =>
            rename_i u0 us
            have lz : vs.length ≤ sizeLine := by rw [rs.length]; exact hz
            have hn : H s.heap.objs.size = none := e0.hok.fresh (Nat.le_refl _)
            refine StX.run_bnd (N := N) (ps := [p1, pv]) lk code S hr e0 (args := ⟨[u0] ++ us, []⟩) (G := fun xs H2 => ∃ p, H p = none ∧ xs = [v0, .ref p] ∧ H2 = upd H p (.tup vs)) (fun A' Ex Q' hq => ?_) fun s2 H2 xs ⟨p, hp, ex, eH⟩ rm => ?_
            · rw [hbd kV doc pm an cdv ct [u0] us rfl]
              have lu : us.length ≤ sizeLine := by rw [← r.length]; exact lz
              refine wpAny_bind (wpAny_newTuple (wpAny_pure ?_) lu)
              have new : ObjOk P w (upd H s.heap.objs.size (.tup vs)) (s.heap.push ({ cls := .type "tuple", data := .seq us.toArray } : Obj)) s.heap.objs.size (.tup vs) := ⟨lz, us, r, ⟨_, Heap.get?_push_size _ rfl, rfl, _, rfl⟩⟩
              have un := StX.un_laid (fs := frs out) (s := s) (o := ({ cls := .type "tuple", data := .seq us.toArray } : Obj)) (u := .tup vs) hn
              exact hq _ _ [v0, .ref s.heap.objs.size] [u0, .ref s.heap.objs.size] (StX.env0_laid e0 new) un rfl (fun e s' => StX.cxUp out s H _ _ E e s' un (fun b o q => Heap.get?_push_of_some _ q) rfl) (.cons r0 (.cons rfl .nil)) rfl ⟨_, hn, rfl, rfl⟩
            · subst ex eH
              have st := PStep.fz (W := W) (o := .tup vs) sb tb hp
              have sp2 : spT W false (runB 2 N.length false m) [v0, .ref p] (upd H p (.tup vs)) Q E := by
                refine ⟨upd F0 p (.tup vs), [s0, .pu (.tup ds)], st.sub, st.tabs, args_head ao ad st.le (fun a ha => st.new a ha) (fun a u hu => by
                  have : a ≠ p := fun z => by rw [z, hp] at hu; cases hu
                  rw [upd_ne this]; exact hu) ⟨p, vs, rfl, upd_same, rs.le st.le⟩, ?_⟩
                rw [← adr_two (v0 := v0) (s0 := s0) (v1 := .ref p) (d := .tup ds) ad]
                have free : ∀ a ∈ adr (v0 :: vs) (s0 :: rest), a ∈ adr (v0 :: vs) (s0 :: rest) ∨ H a = none := fun a ha => .inl ha
                cases q : runB 2 N.length false m [s0, .pu (.tup ds)] with
                | ok pr =>
                  rw [q] at h
                  exact fun F' H' v ps os ro => h F' H' v ((st.weak).trans ps free) os ro
                | exc x =>
                  rw [q] at h
                  exact fun F' H' dd ps xr => h F' H' dd ((st.weak).trans ps free) xr
                | bad => rw [q] at h; exact h.elim
              obtain ⟨B, t⟩ := body_tS (N := N) sp2
              exact ⟨_, hb cdv A out s2 _ B E rm gd, t⟩
end Dl

set_option maxHeartbeats 4000000
/-! DMJ: enumerate of a tuple. -/
namespace Dl
open PySem PySem.W L2 PyProof.Rows
open PySem.Sem (wp)
open PySem.AutoSeq1 (wpAny_loadPart')
theorem draws_tup {prog : Program} {w : World} {A : Around} (hh : A.handled = none) (it t : Addr) (hne : t ≠ it) (items : Array Value) :
    Draws prog w A it [it, t] items.size (fun i v => items[i]? = some v) (fun i h => h.IsTupleIter it t i ∧ h.IsTuple t items) where
  live := fun _ _ st => let ⟨o, ho, _⟩ := st.1; ⟨o, ho⟩
  frame := fun _ _ _ st hk => ⟨st.1.at fun o e => hk it (by simp) o e, st.2.at fun o e => hk t (by simp) o e⟩
  item := fun i s Q E hi st hQ => by
    refine RZ.nextOf_tuple_item st.1 st.2 (x := items[i]) (by simp [hi]) fun h' hit' hs' => ?_
    exact hQ _ h' s.toks (by simp [hi]) ⟨hit', st.2.extBut hs'.extBut hne⟩ hs'
  done := fun s Q E st hE => RZ.nextOf_tuple_end hh st.1 st.2 (by simp) hE
theorem meets_enum_tup (l : Addr) (items : Array Value) (n : Nat) (dct : Option Addr) (sl : Array (Option Value)) :
    Meets (Builtin.«enumerate.__new__» ⟨[.type "enumerate", .ref l], []⟩) (fun _ R s => s.heap.get? l = some { cls := .type "tuple", dict := dct, data := .seq items n, slots := sl } ∧
      R (.ok (.ret (.ref (s.heap.push { cls := .type "tuple_iterator", data := .fields #[.ref l, .int 0 0] }).objs.size)))
        { s with heap := (s.heap.push { cls := .type "tuple_iterator", data := .fields #[.ref l, .int 0 0] }).push { cls := .type "enumerate", data := .fields #[.none, .bool false, .ref s.heap.objs.size, rawInt 0, .none, .none] } }) :=
  .of_wp fun prog w A R s h => by
    obtain ⟨hp, g, d, tk, os⟩ := s; obtain ⟨hl, h⟩ := h
    have hsub := sub_enumerate
    have hL : Heap.IsTuple (Shared.heap ⟨hp, g, d, tk, os⟩) l items := ⟨_, hl, rfl, n, rfl⟩
    wp_walk using wpAny_loadPart' hl
    refine wpAny_stack_any fun st => wpAny_pure ?_
    split
    · rename_i c _ _ _ _ _
      cases (c == Value.type "enumerate")
      · wp_walk using wpAny_loadPart' hl, wpAny_pyIter_tuple hL
        exact ⟨_, rfl, h⟩
      · wp_walk using wpAny_loadPart' hl, wpAny_pyIter_tuple hL
        exact ⟨_, rfl, h⟩
    · wp_walk using wpAny_loadPart' hl, wpAny_pyIter_tuple hL
      exact ⟨_, rfl, h⟩
theorem call_enum_tup {prog : Program} {w : World} {A : Around} {E : Value → Shared → Prop} {s : Shared} {l : Addr} {items : Array Value} {Q : Value → Shared → Prop} (hL : s.heap.IsTuple l items)
    (h : ∀ h', IsEnum h' (s.heap.objs.size + 1) s.heap.objs.size 0 .none → h'.IsTupleIter s.heap.objs.size l 0 → h'.objs.size = s.heap.objs.size + 2 →
      (∀ b o, s.heap.get? b = some o → h'.get? b = some o) → Q (.ref (s.heap.objs.size + 1)) { s with heap := h' }) :
    wpAny (model prog w) A (call (.type "enumerate") [.ref l]) Q E s := by
  obtain ⟨⟨c, dct, dt, sl⟩, hl, hc, n, hd⟩ := hL
  replace hc : c = .type "tuple" := hc
  replace hd : dt = .seq items n := hd
  subst hc hd
  refine callType_new F.called_enumerate (by decide) (F.typeCall_enumerate_1 _) (F.newCall_enumerate_1 _) (fun obj => F.args_object_init_2 obj _) F.entry_enumerate_new
    (meets_enum_tup l items n dct sl) ⟨hl, ?_⟩
  have hz : (s.heap.push { cls := .type "tuple_iterator", data := .fields #[.ref l, .int 0 0] }).objs.size = s.heap.objs.size + 1 := Heap.size_push ..
  show _ ∧ _
  rw [hz]
  have he : IsEnum ((s.heap.push { cls := .type "tuple_iterator", data := .fields #[.ref l, .int 0 0] }).push
      { cls := .type "enumerate", data := .fields #[.none, .bool false, .ref s.heap.objs.size, rawInt 0, .none, .none] }) (s.heap.objs.size + 1) s.heap.objs.size 0 .none := by
    have := Heap.get?_push_size (s.heap.push { cls := .type "tuple_iterator", data := .fields #[.ref l, .int 0 0] })
      (o := { cls := .type "enumerate", data := .fields #[.none, .bool false, .ref s.heap.objs.size, rawInt 0, .none, .none] }) rfl
    rw [hz] at this; exact this
  refine ⟨⟨_, he, rfl⟩, h _ he ⟨_, Heap.get?_push_of_some _ (Heap.get?_push_size _ rfl), rfl, rfl⟩ (by rw [Heap.size_push, hz]) fun b o x => Heap.get?_push_of_some _ (Heap.get?_push_of_some _ x)⟩
def Itet (K : PySem.W.Frag) (a : Addr) : It :=
  ⟨fun i H => ∃ (xs : List V) (x : V), SqT K H a xs ∧ xs[i]? = some x, fun i H v H' => ∃ T x, v = .ref T ∧ H T = none ∧ H' = upd H T (.tup [.int (i : Nat), x]) ∧ ∀ xs, SqT K H a xs → xs[i]? = some x, fun i H => ∃ xs : List V, SqT K H a xs ∧ xs.length ≤ i⟩
theorem turn_enumT {P : Program} {w : World} {K : PySem.W.Frag} {elts : List Expr} {kk : Nat} {tpos : Pos} (a e it : Addr) :
    Turn P w K (.Tuple elts kk tpos) (Itet K a) [e, it] e (fun i h => (∃ old, IsEnum h e it ((i : Nat) : Int) old) ∧ h.IsTupleIter it a i ∧ e ≠ it) where
  mem := by simp
  obj := fun i h st b hb => by
    obtain ⟨⟨old, he⟩, ⟨o, ho, hc, hd⟩, _⟩ := st
    have e' : b = e ∨ b = it := by simpa using hb
    rcases e' with z | z
    · rw [z]; exact ⟨_, he, fun v q => nomatch q⟩
    · rw [z]; exact ⟨o, ho, fun v q => by rw [hd] at q; cases q⟩
  keep := fun i h h' st k => let ⟨⟨old, he⟩, hi, hne⟩ := st; ⟨⟨old, k e (by simp) _ he⟩, hi.at fun o q => k it (by simp) o q, hne⟩
  item := by
    intro X hP hw hK hc i pins s σ H E I hf st hg
    subst hP hw hK
    obtain ⟨⟨old, he⟩, hit, hne⟩ := st
    obtain ⟨xs, x, hq, hx⟩ := hg
    obtain ⟨its, rv, p, hz⟩ := I.tuple hq
    obtain ⟨u, hu, ru⟩ := rv.get hx
    have hel : e < s.heap.objs.size := Heap.lt_size he
    have hil : it < s.heap.objs.size := by obtain ⟨_, q, _⟩ := hit; exact Heap.lt_size q
    have hai : a ≠ it := fun z => by
      obtain ⟨o, ho, hc, _⟩ := hit
      obtain ⟨o2, ho2, hc2, _⟩ := p
      rw [z, ho] at ho2
      cases ho2
      rw [hc] at hc2
      injection hc2 with z2
      exact absurd z2 (by decide)
    have hae : a ≠ e := fun z => by
      obtain ⟨o2, ho2, hc2, _⟩ := p
      rw [z, he] at ho2
      cases ho2
      injection hc2 with z2
      exact absurd z2 (by decide)
    have il : i < its.toArray.size := by
      have := rv.length
      have := get_lt hx
      simp; omega
    refine wpAny_pyNext_enum_itemD (draws_tup (A := X.A.in1) (I.ok.hd hc) it a hai its.toArray) he ⟨hit, p⟩ il hne (by simp [hne, Ne.symm hae]) fun y h' tk hy ho hit' hT hsz hk => ?_
    have hyu : y = u := by
      have hu2 : its.toArray[i]? = some u := by simpa using hu
      rw [hu2] at hy
      cases hy; rfl
    subst hyu
    refine ⟨_, rfl, wpAny_letOwnedTupleGo_enum (s := { s with heap := h', toks := tk + 1 }) ho fun h'' he' sb => ?_⟩
    have hT2 : h''.get? s.heap.objs.size = some { cls := .type "tuple", data := .seq #[.int i tk, y] } := (sb.2 _ (Nat.ne_of_gt hel)).trans hT
    have new : ObjOk X.prog X.w (upd H s.heap.objs.size (.tup [.int (i : Nat), x])) h'' s.heap.objs.size (.tup [.int (i : Nat), x]) :=
      ⟨by show 2 ≤ sizeLine; decide, [.int i tk, y], .cons ⟨_, rfl⟩ (.cons ru .nil), ⟨_, hT2, rfl, _, rfl⟩⟩
    have I1 : Inv X pins σ (upd H s.heap.objs.size (.tup [.int (i : Nat), x])) { s with heap := h'', toks := tk + 1 } :=
      I.turnedNew (ch := [e, it]) (fun b ob hb q => (sb.2 b (fun z => hb (by simp [z]))).trans (hk b ob (fun z => hb (by simp [z])) (fun z => hb (by simp [z])) q)) hf (Nat.le_refl _) new
    refine ⟨.ref s.heap.objs.size, _, I1, rfl, ⟨_, x, rfl, I.hok.fresh (Nat.le_refl _), rfl, fun ys hy => by rw [I.tuple_inj hy hq]; exact hx⟩, ⟨⟨y, ?_⟩, hit'.1.at fun o q => (sb.2 it (Ne.symm hne)).trans q, hne⟩, fun b hb => ?_⟩
    · have e1 : ((i + 1 : Nat) : Int) = (i : Int) + 1 := by omega
      rw [e1]; exact he'
    · have hb' : b < s.heap.objs.size := by
        have e' : b = e ∨ b = it := by simpa using hb
        rcases e' with z | z
        · rw [z]; exact hel
        · rw [z]; exact hil
      rw [upd_ne (Nat.ne_of_lt hb')]
      exact (hf b hb).1
  done := by
    intro X hP hw hK hc i pins s σ H E I hf st hg
    subst hP hw hK
    obtain ⟨⟨old, he⟩, hit, hne⟩ := st
    obtain ⟨xs, hq, hx⟩ := hg
    obtain ⟨its, rv, p, hz⟩ := I.tuple hq
    obtain ⟨f0, f1, f2, f3, f4, f5⟩ := hf it (by simp)
    have hl := rv.length
    have hT : s.TypeIs (.ref e) "enumerate" := ⟨_, he, rfl⟩
    unfold pyNext
    refine wpAny_bind (wpAny_attempt (wpAny_callSpecial?_slot (name := Str.ofString "__next__") hT F.slot_enumerate_next
      (wpAny_call_entry F.slot_enumerate_next hT F.entry_enumerate_next ?_ (F.args_enumerate_next_1 _))))
    show wpAny _ _ (field (.ref e) 2 >>= _) _ _ _
    refine wpAny_bind (wpAny_field he rfl (x := .ref it) rfl ?_)
    refine wpAny_bind (RZ.nextOf_tuple_end (I.ok.hd hc) hit p (by simp; omega) fun h' x he' hx' => ?_)
    obtain ⟨o, ho, hc⟩ := hx'
    refine wpAny_bind (wpAny_isInstance (T := "StopIteration") (b := true) ⟨o, ho, hc⟩ isSubtype_stop ?_)
    exact wpAny_pure ⟨rfl, I.turned (t' := s.toks) (fun b o hb q => he' b o hb q) f0 f1 f3 f4 f5⟩
  self := fun A i s Q E st h => let ⟨⟨_, he⟩, _⟩ := st; wpAny_pyIter_enum he h
def iEnumT (K : PySem.W.Frag) (ta : TA) : TI := fun σ H R => ta σ H fun vs H1 => (∃ a xs, vs = [.ref a] ∧ SqL K H1 a xs ∧ R (Ite K a) H1) ∨ ∃ a xs, vs = [.ref a] ∧ SqT K H1 a xs ∧ R (Itet K a) H1
theorem pi_enumT {X : Cx} {e : Expr} {ta : TA} {p pos tpos : Pos} {elts : List Expr} {kk : Nat} (hg : Gl X "enumerate") (hm : X.mg "enumerate" = none) (ha : PA X [e] ta) (hs : starEach [e] X.env = [(false, eval e X.env)] := by rfl) :
    PI X (.Tuple elts kk tpos) (.Call (.Name "enumerate" p) [e] [] pos) (iEnumT X.K ta) := by
  refine ⟨fun pins s σ H R I h => ?_⟩
  refine Call_ (ld_blt I hg hm boot_enumerate (PyProof.Rows.callWith_type1 (thn (ha.run pos pins s σ H _ I h) fun us s1 ⟨vs, H1, I1, r1, q1⟩ => ?_) hs rfl))
  have fp : ∀ b ∈ [s1.heap.objs.size + 1, s1.heap.objs.size], FpOk X pins H1 b := fun b hb => by
    have e' : b = s1.heap.objs.size + 1 ∨ b = s1.heap.objs.size := by simpa using hb
    have hle : s1.heap.objs.size ≤ b := by
      rcases e' with z | z
      · rw [z]; exact Nat.le_add_right _ _
      · rw [z]; exact Nat.le_refl _
    exact I1.fpOk hle (I1.hok.fresh hle)
  rcases q1 with ⟨a, xs, ex, hq, q⟩ | ⟨a, xs, ex, hq, q⟩
  · subst ex
    cases r1 with
    | cons r rr =>
      cases rr
      cases r
      obtain ⟨its, rv, p', hz⟩ := I1.list hq
      refine call_enumerate_list p'.isList fun h' he hit hsz hk => wpAny_pyIter_enum he ?_
      have I2 : Inv X pins σ H1 { s1 with heap := h' } := I1.kept (t' := s1.toks) hk
      exact ⟨s1.heap.objs.size + 1, [s1.heap.objs.size + 1, s1.heap.objs.size], _, _, H1, rfl, I2, turn_enum a (s1.heap.objs.size + 1) s1.heap.objs.size, ⟨⟨.none, he⟩, hit, Nat.succ_ne_self _⟩, fp, q⟩
  · subst ex
    cases r1 with
    | cons r rr =>
      cases rr
      cases r
      obtain ⟨its, rv, p', hz⟩ := I1.tuple hq
      refine call_enum_tup p' fun h' he hit hsz hk => wpAny_pyIter_enum he ?_
      have I2 : Inv X pins σ H1 { s1 with heap := h' } := I1.kept (t' := s1.toks) hk
      exact ⟨s1.heap.objs.size + 1, [s1.heap.objs.size + 1, s1.heap.objs.size], _, _, H1, rfl, I2, turn_enumT a (s1.heap.objs.size + 1) s1.heap.objs.size, ⟨⟨.none, he⟩, hit, Nat.succ_ne_self _⟩, fp, q⟩
section
variable {X : Cx} {W : Wd} {B : Bs} {E : XK} {a : Expr} {p pos : Pos}
def enumT1 : List D → R (List D)
  | [.lst xs] => .ok (enumD xs)
  | [.tup xs] => .ok (enumD xs)
  | _ => .bad
theorem jok_enumT {K : Frag} {F : Hp} {a : Addr} {vs : List V} {ds : List D} (ha : F a = some (.tup vs)) (r : Reps W F vs ds) : JOk W (Itet K a) F (enumD ds) := by
  intro F2 H2 l1 l2 t
  have h2 := l2 _ _ (l1 _ _ ha)
  refine ⟨fun i d hd => ?_, vs, .inl (.inl h2), by rw [r.length]; simp [enumD]⟩
  have hl : i < ds.length := by have := get_lt hd; simpa [enumD] using this
  obtain ⟨d1, hd1⟩ : ∃ d1, ds[i]? = some d1 := ⟨_, List.getElem?_eq_getElem hl⟩
  have hd2 : d = .tup [.int i, d1] := by
    unfold enumD at hd
    rw [List.getElem?_zipWith, List.getElem?_range hl, hd1] at hd
    cases hd; rfl
  subst hd2
  obtain ⟨v, hv, rv⟩ := r.get' hd1
  refine ⟨⟨vs, v, .inl (.inl h2), hv⟩, fun x H' ⟨T, y, ex, hT, eH, hy⟩ => ?_⟩
  subst ex eH
  have hx := hy vs (.inl (.inl h2))
  rw [hv] at hx
  cases hx
  refine ⟨upd F2 T (.tup [.int (i : Nat), v]), PStep.fz l2 t hT, T, _, rfl, upd_same, .cons rfl (.cons ?_ .nil)⟩
  exact (rv.le l1).le (PStep.fz (o := .tup [.int (i : Nat), v]) l2 t hT).le
theorem pdi_enumT {m : M (List D)} {elts : List Expr} {kk : Nat} {tpos : Pos} (hg : Gl X "enumerate") (hm : X.mg "enumerate" = none) (ha : PA X [a] (tA W B E m)) (hs : isStar a = false) : PI X (.Tuple elts kk tpos) (.Call (.Name "enumerate" p) [a] [] pos) (tI W B E (mRng enumT1 m)) := PI.imp (pi_enumT hg hm ha (starEach_of hs)) fun σ H Q ⟨F, env, ag, h⟩ => by
  refine wantA_bind (G := fun F H env r => WantI W B E F H env σ Q r) ag h (fun _ _ _ _ _ _ _ l w => WantI.st w l) (fun _ _ _ _ w => w) (fun _ _ _ w => w) fun ds env1 F1 H1 vs l g1 r w => ?_
  unfold enumT1 at w
  split at w
  · obtain ⟨v, rfl, p, ys, rfl, hp, q⟩ := reps1 r
    exact .inl ⟨p, ys, rfl, .inl (.inl (g1.sub _ _ hp)), w F1 H1 _ Stp.refl g1 (jok_enum hp q)⟩
  · obtain ⟨v, rfl, p, ys, rfl, hp, q⟩ := reps1 r
    exact .inr ⟨p, ys, rfl, .inl (.inl (g1.sub _ _ hp)), w F1 H1 _ Stp.refl g1 (jok_enumT hp q)⟩
  · exact w.elim
/-! ### what is never come to -/
def mNo {α : Type} : M α := fun _ => .bad
def sNo : MS := fun _ => .bad
theorem pd_no {e : Expr} : PE X e (tD W B E mNo) := ⟨fun pins s σ H Q I ⟨F, env, ag, h⟩ => h.elim⟩
theorem pds_no {b : Bool} {st : Stmt} : PS X st (tS W B E b sNo) := ⟨fun pins s σ H Q I ⟨F, env, ag, h⟩ => h.elim⟩
end
end Dl

set_option maxHeartbeats 4000000
/-! DMK: repr of all plain data that laws show; operators that plain data alone do not have. -/
namespace Dl
open PySem PySem.W L2 PyProof.Rows
section
variable {X : Cx} {W : Wd} {B : Bs} {E : XK}
def reprX : D → Option (List Nat)
  | .non => some [78, 111, 110, 101]
  | .bl b => some (if b then [84, 114, 117, 101] else [70, 97, 108, 115, 101])
  | .str s => some (reprText ⟨s.toArray⟩).cps.toList
  | .dct [] [] => some [123, 125]
  | d => if reprOk d then some (shownD d) else none
def gReprX : List D → R D
  | [d] => (match reprX d with
    | some z => if okSb z = true then .ok (.str z) else .bad
    | none => .bad)
  | _ => .bad
theorem v_reprX (hgd : X.A.guards = some []) (hu : X.A.units + 64 < cLine) : CallR X (.builtin "repr") (rVs W B E gReprX) := by
  intro pins s σ H xs us Q I r ⟨F, ds, bs, rp, o⟩
  unfold gReprX at o
  split at o
  · rename_i d
    split at o
    · rename_i z hz
      split at o
      · rename_i hc
        have os := okSb_of hc
        have rp0 := rp
        obtain ⟨v, rfl, rv⟩ := reps1 rp
        obtain ⟨u, rfl, ru⟩ := vals1 r
        have fin : ∀ y : Str, y.cps.toList = z → Q (.str y) H := fun y hy => out_flat bs o ⟨_, rfl, hy, os⟩
        have old : reprOk d = true → z = shownD d → wpAny (model X.prog X.w) X.A (call (.builtin "repr") [u]) (EP X pins σ Q) X.xe s := fun h1 h2 => by
          subst h2
          refine v_repr (W := W) (B := B) (E := E) hgd hu pins s σ H [v] [u] Q I (.cons ru .nil) ⟨F, [d], bs, rp0, ?_⟩
          show Out W B E F H (if reprOk d = true ∧ okSb (shownD d) = true then R.ok (D.str (shownD d)) else R.bad) Q
          rw [if_pos ⟨h1, hc⟩]
          exact o
        unfold reprX at hz
        split at hz
        · cases hz
          cases rv
          cases ru
          exact PySem.P.repr_of_none ⟨.str _, H, I.tok _, ⟨_, rfl⟩, fin _ rfl⟩
        · rename_i b
          cases hz
          obtain rfl : v = .bl b := rv
          cases ru
          refine PySem.P.repr_of_bool ⟨.str _, H, I.tok _, ⟨_, rfl⟩, fin _ ?_⟩
          cases b <;> rfl
        · cases hz
          obtain ⟨y, rfl, rfl, ok⟩ := rv
          obtain ⟨t, rfl⟩ := ru
          rw [str_eq] at fin os
          refine PySem.P.repr_of_str ⟨.str _, H, I.tok _, ⟨_, rfl⟩, fin _ rfl⟩ ?_
          rw [len_cps]
          exact os.2
        · cases hz
          obtain ⟨p, kvs, rfl, hp, k1, k2⟩ := rv
          obtain rfl : u = .ref p := ru
          have : kvs = [] := by
            cases kvs with
            | nil => rfl
            | cons a b => simp [Reps] at k2
          subst this
          obtain ⟨_, hsm, vs, kv, hd⟩ := dk_of I.hok (bs.sub _ _ hp)
          have : vs = [] := by
            have := Paired.length kv
            cases vs with
            | nil => rfl
            | cons a b => simp at this
          subst this
          have rd : ∃ as, Reads s.heap (.ref p) (.dict []) as ∧ sysModules ∉ as := by
            obtain ⟨ob, es, ep, ho, hx, hdt, _, pr, _⟩ := hd
            have es0 : es.toList = [] := by cases hq : es.toList with
              | nil => rfl
              | cons a b => rw [hq] at pr; cases pr
            refine ⟨[p] ++ [] ++ [], .dict ho hx.1 hdt (by rw [es0]; exact .nil) (by rw [es0]; exact .nil), ?_⟩
            simp only [List.append_nil, List.mem_singleton]
            intro z
            rw [← z] at hsm
            simp at hsm
          obtain ⟨as, rd, hn⟩ := rd
          exact repr_of_reads' rd rfl (fun _ => hn) hgd (by show X.A.units + 2 < cLine; omega) (fun b o e => e) (fun h' u tk kk => ⟨.str _, H, I.kept (t' := tk) kk, ⟨_, rfl⟩, fin _ rfl⟩) (by decide)
        · split at hz
          · cases hz
            exact old ‹_› rfl
          · cases hz
      · exact o.elim
    · exact o.elim
  · exact o.elim
/-- an operator that no plain data have -/
def noB : D → D → R D := fun _ _ => .bad
theorem v_noB {op : Operator} : OpR X (binaryOp op) (rV2 W B E noB) := fun pins s σ H x y v u Q I rx ry ⟨F, d, e, bs, r1, r2, w⟩ => w.elim
end
end Dl

set_option maxHeartbeats 4000000
/-! DML: a name's own list looked at without freezing it: x in name, name == x, len(name), join(name); xs[::-1]. -/
namespace Dl
open PySem PySem.W L2 PyProof.Rows
/-- flat plain data: nothing of the heap -/
def flatD : D → Bool
  | .non | .bl _ | .int _ | .str _ => true
  | _ => false
theorem flat_rep {W : Wd} {F F' : Hp} {v : V} {d : D} (h : flatD d = true) (r : Rep W F v d) : Rep W F' v d := by
  cases d <;> first | exact r | cases h
def peekAt (env : Ev) (i : Nat) : Option D := match env[i]? with
  | some (.pu d) => some d
  | some (.ow d) => some d
  | some (.pa _ d) => some d
  | _ => none
section
variable {X : Cx} {W : Wd} {B : Bs} {E : XK} {F H : Hp} {σ : L2.St} {env : Ev} {i : Nat} {x : Str} {a b e o : Expr} {f f1 : M D} {pos p apos : Pos}
theorem peek_at {d : D} (g : Ag W B F H σ env) (e : peekAt env i = some d) : ∃ v F2, σ[i]? = some (some v) ∧ Le F F2 ∧ Le F2 H ∧ Tb W F2 H ∧ Rep W F2 v d := by
  cases q : env[i]? with
  | none => unfold peekAt at e; rw [q] at e; cases e
  | some s =>
    have own : ownAt env i = some d → ∃ v F2, σ[i]? = some (some v) ∧ Le F F2 ∧ Le F2 H ∧ Tb W F2 H ∧ Rep W F2 v d := fun h => by
      obtain ⟨a, ea, fa, ow, _⟩ := own_at g h
      obtain ⟨ob, ho, le, rp⟩ := ow.frz g.sub fa
      refine ⟨_, upd F a ob, ea, le, fun b y h => ?_, ⟨g.tabs.tb, fun b ps h => ?_⟩, rp⟩
      · by_cases z : b = a
        · subst z; rw [upd_same] at h; cases h; exact ho
        · rw [upd_ne z] at h; exact g.sub _ _ h
      · by_cases z : b = a
        · subst z; rw [upd_same] at h; cases h; exact ow.nt ho _ rfl
        · rw [upd_ne z] at h; exact g.tabs.nt _ _ h
    cases s with
    | no => unfold peekAt at e; rw [q] at e; cases e
    | fu => unfold peekAt at e; rw [q] at e; cases e
    | pu d' =>
      unfold peekAt at e; rw [q] at e; cases e
      obtain ⟨v, ev, r⟩ := g.pure q
      exact ⟨v, F, ev, Le.refl _, g.sub, g.tabs, r⟩
    | ow d' => exact own (by unfold peekAt at e; rw [q] at e; unfold ownAt; rw [q]; exact e)
    | pa k d' => exact own (by unfold peekAt at e; rw [q] at e; unfold ownAt; rw [q]; exact e)
/-- what comes of a look that is flat -/
def flatR : R D → Option D
  | .ok r => if flatD r then some r else none
  | _ => none
theorem flatR_some {r : R D} {d : D} (h : flatR r = some d) : r = .ok d ∧ flatD d = true := by
  unfold flatR at h
  split at h
  · split at h
    · cases h; exact ⟨rfl, by assumption⟩
    · cases h
  · cases h
def mFlat (r : R D) : M D := fun env => match flatR r with
  | some d => .ok (d, env)
  | none => .bad
/-- behind a look: what was frozen for it is free again -/
theorem peek_out {F2 : Hp} {r : R D} {Q : VK} (g : Ag W B F H σ env) (l : Le F F2) (s2 : Le F2 H) (w : Want W B E F H env σ Q (mFlat r env)) : Out W ⟨F2, H, [], B.T⟩ E F2 H r Q := by
  unfold mFlat at w
  cases e : flatR r with
  | none => rw [e] at w; exact w.elim
  | some d =>
    rw [e] at w
    obtain ⟨rfl, hf⟩ := flatR_some e
    intro F' H' v p rv
    have p' : PStep W [] F H F H' := ⟨Le.refl _, fun b y q => p.sub b y (p.le b y (l b y q)), p.old, fun _ _ => rfl, p.trk, ⟨p.tabs.tb, g.tabs.nt⟩⟩
    exact w F H' v p'.stp (g.step p') (flat_rep hf rv)
def mPkR (g : D → D → R D) (f : M D) (i : Nat) : M D := M.bind f fun d env => match peekAt env i with
  | some o => mFlat (g d o) env
  | none => .bad
def mPkL (g : D → D → R D) (i : Nat) (f : M D) : M D := fun env => match peekAt env i with
  | some _ => (M.bind f fun d env => match peekAt env i with
    | some o => mFlat (g o d) env
    | none => .bad) env
  | none => .bad
def mPk1 (g : List D → R D) (i : Nat) : M D := fun env => match peekAt env i with
  | some o => mFlat (g [o]) env
  | none => .bad
def rEx2 (W : Wd) (E : XK) (g : D → D → R D) : R2 := fun x y H Q => ∃ B, rV2 W B E g x y H Q
theorem ex2 {f : Value → Value → Sem Value} {g : D → D → R D} (h : ∀ B, OpR X f (rV2 W B E g)) : OpR X f (rEx2 W E g) := fun pins s σ H x y v u Q I rx ry ⟨B, q⟩ => h B pins s σ H x y v u Q I rx ry q
theorem pkR {g : D → D → R D} {Q : VK} (h : tD W B E (mPkR g f i) σ H Q) : tOp (rEx2 W E g) (tD W B E f) (tVar i) σ H Q := by
  obtain ⟨F, env, ag, h⟩ := h
  refine want_bind ag h fun d env1 F1 H1 v l g1 r w => ?_
  split at w
  · rename_i o eo
    obtain ⟨u, F2, eu, l2, s2, t2, ru⟩ := peek_at g1 eo
    exact ⟨u, eu, ⟨F2, H1, [], B.T⟩, F2, d, o, PStep.refl s2 t2, r.le l2, ru, peek_out g1 l2 s2 w⟩
  · exact w.elim
theorem pkL {g : D → D → R D} {Q : VK} (h : tD W B E (mPkL g i f) σ H Q) : tOp (rEx2 W E g) (tVar i) (tD W B E f) σ H Q := by
  obtain ⟨F, env, ag, h⟩ := h
  unfold mPkL at h
  split at h
  · rename_i o0 e0
    obtain ⟨u0, _, eu0, _⟩ := peek_at ag e0
    refine ⟨u0, eu0, ?_⟩
    refine want_bind ag h fun d env1 F1 H1 v l g1 r w => ?_
    split at w
    · rename_i o eo
      obtain ⟨u, F2, eu, l2, s2, t2, ru⟩ := peek_at g1 eo
      rw [eu0] at eu; cases eu
      exact ⟨⟨F2, H1, [], B.T⟩, F2, o, d, PStep.refl s2 t2, ru, r.le l2, peek_out g1 l2 s2 w⟩
    · exact w.elim
  · exact h.elim
theorem pk1 {g : List D → R D} {Q : VK} (h : tD W B E (mPk1 g i) σ H Q) : tCB (fun vs H Q => ∃ B, rVs W B E g vs H Q) (tCons (tVar i) tNil) σ H Q := by
  obtain ⟨F, env, ag, h⟩ := h
  unfold mPk1 at h
  split at h
  · rename_i o eo
    obtain ⟨u, F2, eu, l2, s2, t2, ru⟩ := peek_at ag eo
    exact ⟨u, eu, ⟨F2, H, [], B.T⟩, F2, [o], PStep.refl s2 t2, .cons ru .nil, peek_out ag l2 s2 h⟩
  · exact h.elim
theorem pd_pkR {op : CmpOp} {g : D → D → R D} (ho : ∀ B, OpR X (compareOp op) (rV2 W B E g)) (ha : PE X a (tD W B E f)) (hN : X.N[i]? = some x) (hv : Vis X.env.scope x) (hd : (x == ("__debug__" : Str)) = false) (hcd : (x == ("__classdict__" : Str)) = false) (hm : behindInMarks op (.Name x p) = false) : PE X (.Compare a [op] [.Name x p] pos) (tD W B E (mPkR g f i)) :=
  PE.imp (pe_cmpR (ex2 ho) ha (pe_var hN hv hd hcd) hm) fun _ _ _ h => pkR h
theorem pdt_pkR {op : CmpOp} {g : D → D → R D} (ho : ∀ B, OpR X (compareOp op) (rV2 W B E g)) (ha : PE X a (tD W B E f)) (hN : X.N[i]? = some x) (hv : Vis X.env.scope x) (hd : (x == ("__debug__" : Str)) = false) (hcd : (x == ("__classdict__" : Str)) = false) (hm : behindInMarks op (.Name x p) = false) : PT X (.Compare a [op] [.Name x p] pos) (tT W B E (mB (mPkR g f i))) :=
  PT.imp (pt_cmpR (ex2 ho) ha (pe_var hN hv hd hcd) hm) fun σ H Q h => by
    have h1 := tTest_of h
    unfold tTest at h1 ⊢
    exact pkR h1
theorem pd_pkL {op : CmpOp} {g : D → D → R D} (ho : ∀ B, OpR X (compareOp op) (rV2 W B E g)) (hN : X.N[i]? = some x) (hv : Vis X.env.scope x) (hd : (x == ("__debug__" : Str)) = false) (hcd : (x == ("__classdict__" : Str)) = false) (hb : PE X b (tD W B E f)) (hm : behindInMarks op b = false) : PE X (.Compare (.Name x p) [op] [b] pos) (tD W B E (mPkL g i f)) :=
  PE.imp (pe_cmpR (ex2 ho) (pe_var hN hv hd hcd) hb hm) fun _ _ _ h => pkL h
theorem pdt_pkL {op : CmpOp} {g : D → D → R D} (ho : ∀ B, OpR X (compareOp op) (rV2 W B E g)) (hN : X.N[i]? = some x) (hv : Vis X.env.scope x) (hd : (x == ("__debug__" : Str)) = false) (hcd : (x == ("__classdict__" : Str)) = false) (hb : PE X b (tD W B E f)) (hm : behindInMarks op b = false) : PT X (.Compare (.Name x p) [op] [b] pos) (tT W B E (mB (mPkL g i f))) :=
  PT.imp (pt_cmpR (ex2 ho) (pe_var hN hv hd hcd) hb hm) fun σ H Q h => by
    have h1 := tTest_of h
    unfold tTest at h1 ⊢
    exact pkL h1
/-- len(name), repr(name) .. -/
theorem pd_pk1 {g : List D → R D} {id : String} {y : Str} (hc : ∀ B, CallR X (.builtin id) (rVs W B E g)) (hg : Gl X x) (hm : X.mg x = none) (hv : bootBuiltins x = some (.builtin id)) (hn : x ≠ "__name__") (hdb : (x == ("__debug__" : Str)) = false) (hN : X.N[i]? = some y) (hvy : Vis X.env.scope y) (hd : (y == ("__debug__" : Str)) = false) (hcd : (y == ("__classdict__" : Str)) = false) : PE X (.Call (.Name x p) [.Name y apos] [] pos) (tD W B E (mPk1 g i)) :=
  PE.imp (pe_callB (r := fun vs H Q => ∃ B, rVs W B E g vs H Q) (fun pins s σ H vs us Q I rv ⟨B, q⟩ => hc B pins s σ H vs us Q I rv q) hg hm hv (pa_cons (pe_var hN hvy hd hcd) pa_nil (starEach_of rfl)) hn hdb (starEach_of rfl) (pl_of rfl)) fun _ _ _ h => pk1 h
theorem pd_pkT {g : List D → R D} {T : String} {y : Str} (hc : ∀ B, CallR X (.type T) (rVs W B E g)) (hg : Gl X x) (hm : X.mg x = none) (hv : bootBuiltins x = some (.type T)) (hn : x ≠ "__name__") (hdb : (x == ("__debug__" : Str)) = false) (hN : X.N[i]? = some y) (hvy : Vis X.env.scope y) (hd : (y == ("__debug__" : Str)) = false) (hcd : (y == ("__classdict__" : Str)) = false) : PE X (.Call (.Name x p) [.Name y apos] [] pos) (tD W B E (mPk1 g i)) :=
  PE.imp (pe_callTy (r := fun vs H Q => ∃ B, rVs W B E g vs H Q) (fun pins s σ H vs us Q I rv ⟨B, q⟩ => hc B pins s σ H vs us Q I rv q) hg hm hv (pa_cons (pe_var hN hvy hd hcd) pa_nil (starEach_of rfl)) hn hdb (starEach_of rfl) (pl_of rfl)) fun _ _ _ h => pk1 h
/-! ### xs[::-1], a list -/
theorem reps_rev {ds : List D} {vs : List V} (r : Reps W F vs ds) : Reps W F vs.reverse ds.reverse := by
  induction ds generalizing vs with
  | nil => rw [show vs = [] from r]; exact .nil
  | cons d ds ih =>
    obtain ⟨v, t, rfl, r1, r2⟩ := r
    rw [List.reverse_cons, List.reverse_cons]
    exact (ih r2).append (.cons r1 .nil)
def revD : D → R D
  | .lst xs => .ok (.lst xs.reverse)
  | _ => .bad
theorem po_revL {k : Nat} {p1 p2 p3 : Pos} (he : PE X e (tD W B E f)) : PE X (.Subscript e (.Slice none none (some (.UnaryOp .USub (.Constant (.int 1) k p1) p2)) p3) pos) (tO W B E (m1 revD f)) := PE.imp (pe_revL he) fun σ H Q ⟨F, env, ag, h⟩ => by
  unfold m1 at h
  refine wantE_bind (G := fun F H env r => WantO W B E F H env σ Q r) ag h (fun _ _ _ _ _ _ _ l w => WantO.st w l) (fun _ _ _ _ w => w) (fun _ _ _ w => w) fun d env1 F1 H1 v l g1 r w => ?_
  unfold M.lift revD at w
  cases d with
  | lst xs =>
    obtain ⟨a, ys, rfl, ha, q⟩ := seq_of (K := X.K) g1.sub r rfl
    refine ⟨a, ys, rfl, ha, fun p np => ?_⟩
    have st := PStep.al (o := .lst ys.reverse) g1.sub g1.tabs np
    refine w F1 _ p st.stp (g1.step st) (g1.nw np) np ?_ ⟨_, upd_same, reps_rev q⟩
    cases z : F1 p with
    | none => rfl
    | some o => rw [g1.sub _ _ z] at np; cases np
  | _ => exact w.elim
end
end Dl

set_option maxHeartbeats 4000000
/-! DMN: name op= e by the class's own operator; text[::-1]. -/
namespace Dl
open PySem PySem.W L2 PyProof.Rows
open Wp (isIns isIns_get rTy rTy_get ty_looks inst_of back_of NumT twoMro no_inplace)
section
variable {X : Cx} {W : Wd} {B : Bs} {E : XK} {op : Operator} {n : Nat}
/-- the class's own operator, none in place -/
structure IpL (X : Cx) (W : Wd) (n : Nat) (nm : String) (c : Nat) (g : List Sl → RF) : Prop where
  op : OpL X W n nm c g
  two : twoMro X.K (W.cl c) = true
  no : findIn X.K (.ref (W.cl c)) (dunderI nm) = some none
def iopD (mt : Nat → Option (List Sl → RF)) (x y : D) : R D := match x with
  | .ins c _ _ => (match mt c with
    | some g => if besides c y = true then call2 g x y else .bad
    | none => .bad)
  | _ => .bad
theorem v_iop {mt : Nat → Option (List Sl → RF)} (hK : X.K = W.K) (hr : Room n X.A) (gd : X.A.guards = some []) (hx : Passes (L2.CX X.prog X.w) X E) (ho : typeLookup (.type "object") (dunderI op.info.2) = pure none)
    (hmt : ∀ c g, mt c = some g → IpL X W n op.info.2 c g) : PIp X op (rV2 W B E (iopD mt)) := by
  intro pins s σ H x y v u Q I rx ry h
  obtain ⟨F, d, e, bs, r1, r2, w⟩ := h
  unfold iopD at w
  split at w
  · rename_i c ns ds
    split at w
    · rename_i g q
      split at w
      · rename_i hbs
        obtain ⟨⟨⟨f, BL, C⟩, sub⟩, two, no⟩ := hmt c g q
        have ci : Wp.InsK X.K (W.cl c) := by obtain ⟨_, _, _, _, _, ci, _⟩ := r1; rw [hK]; exact ci.1
        have r10 := r1
        obtain ⟨a, dx, fvs, rfl, ha, _, _, _⟩ := r1
        obtain ⟨t, ty, ht⟩ := rTy_get (ty_of (K := X.K) hK bs.sub r2 hbs (P := NumT X.K (W.cl c) op.info.2) (fun U hU => numT_kind hU (sub U hU)) (.inl rfl))
        obtain rfl : v = Value.ref a := rx
        obtain ⟨od, J⟩ := inst_of I (bs.sub _ _ ha)
        have one : wpAny (model X.prog X.w) X.A (binaryOp1 op.info.2 (.ref a) u) (fun r s' => ∃ z, r = some z ∧ EP X pins σ Q z s') X.xe s := by
          refine binop_ownC I.kIn J (ty_looks I ry ty _) ci.sf BL ht ?_
          refine wpAny_mono (run_subC C ⟨hr, rfl⟩ gd hx I (vs := [V.ref a, y]) (.cons rfl (.cons ry .nil)) (call2_of bs r10 r2 w)) (fun w' s' z => ?_) fun _ _ e => e
          have := back_of z
          cases w' <;> first | exact this.elim | exact ⟨_, rfl, this⟩
        obtain ⟨cd, hcd, hm⟩ := any_some two
        unfold inplaceOp
        refine wpAny_holding (wpAny_bind (J.type.here (wpAny_bind ((no_inplace I.kIn hcd (beq_iff_eq.mp hm) no ho).here ?_))))
        simp only [Bool.false_eq_true, if_false]
        refine wpAny_bind (wpAny_mono one (fun r s' z => ?_) fun _ _ e => e)
        obtain ⟨z, rfl, q⟩ := z
        exact wpAny_pure q
      · exact w.elim
    · exact w.elim
  · exact w.elim
/-- name op= e -/
def sAug (i : Nat) (g : D → D → R D) (f : M D) : MS := fun env => match env[i]? with
  | some (.pu d) => (f env).bind fun q => (g d q.1).bind fun r => .ok (.nx, q.2.set i (.pu r))
  | _ => .bad
theorem pds_aug {i : Nat} {x : Str} {e : Expr} {f : M D} {g : D → D → R D} {pos pos' : Pos} {ob : Bool} (hN : X.N.Nodup) (hi : X.N[i]? = some x) (hx : Loc X.env.scope x) (he : PE X e (tD W B E f)) (ho : PIp X op (rV2 W B E g)) (hf : X.fn x = true ∨ X.env.scope.names.lookup x = some .local) : PS X (.AugAssign (.Name x pos') op e pos) (tS W B E ob (sAug i g f)) :=
  PS.imp (ps_aug hN hi hx he ho hf) fun Z σ H ⟨F, env, ag, h⟩ => by
    unfold sAug at h
    split at h
    · rename_i d q
      obtain ⟨v, ev, rv⟩ := ag.pure q
      refine ⟨v, ev, F, env, ag, ?_⟩
      cases q1 : f env with
      | bad => rw [q1] at h; exact h.elim
      | exc x => rw [q1] at h; exact h
      | ok p =>
        obtain ⟨b, env1⟩ := p
        rw [q1] at h
        intro F1 H1 u l g1 ru
        refine ⟨F1, d, b, g1.bs, rv.le l.le, ru, ?_⟩
        have h : WantS W B E ob F Z ((g d b).bind fun r => .ok (.nx, env1.set i (.pu r))) := h
        cases q2 : g d b with
        | bad => rw [q2] at h; exact h.elim
        | exc x => rw [q2] at h; exact h
        | ok r =>
          rw [q2] at h
          intro F2 H2 z p2 rz
          exact h F2 H2 _ (l.le.trans p2.le) ((g1.step p2).setP rz)
    · exact h.elim
/-! ### text[::-1] -/
def revS : D → R D
  | .str s => .ok (.str s.reverse)
  | _ => .bad
theorem rev_cps (x : Str) (u : Tok) : (Txt.sliceBy x none none (-1, u)).cps.toList = x.cps.toList.reverse := by
  rw [step_rev_list]
  obtain ⟨⟨l⟩⟩ := x
  show (List.range l.length).map (fun k => (List.toArray l).getD (l.length - 1 - k) 0) = l.reverse
  apply List.ext_getElem
  · simp
  · intro i h1 h2
    simp only [List.length_map, List.length_range, List.length_reverse] at h1 h2
    simp only [List.getElem_map, List.getElem_range, List.getElem_reverse]
    simp [Array.getD, show l.length - 1 - i < l.length by omega]
theorem rev_out {F H : Hp} {Q : VK} {s : List Nat} (y : Str) (hy : y.cps.toList = s) (ok : okS s) (bs : PStep W B.A B.F B.H F H) (w : Out W B E F H (R.ok (D.str s.reverse)) Q) (u : Tok) : Q (.str (Txt.sliceBy y none none (-1, u))) H :=
  out_flat bs w ⟨_, rfl, by rw [rev_cps, hy], ⟨fun c hc => ok.1 c (List.mem_reverse.mp hc), by rw [List.length_reverse]; exact ok.2⟩⟩
theorem pd_revS {e : Expr} {f : M D} {k : Nat} {p1 p2 p3 pos : Pos} (he : PE X e (tD W B E f)) : PE X (.Subscript e (.Slice none none (some (.UnaryOp .USub (.Constant (.int 1) k p1) p2)) p3) pos) (tD W B E (m1 revS f)) := by
  refine ⟨fun pins s σ H Q I h => ?_⟩
  have h' := t1_of h
  refine Subscript_ (thn (he.run pins s σ H _ I h') fun v s1 ⟨x, H1, I1, r1, q1⟩ => ?_)
  obtain ⟨F, d, bs, rd, w⟩ := q1
  unfold revS at w
  split at w
  · rename_i z
    obtain ⟨y, rfl, hy, ok⟩ := rd
    obtain ⟨t, rfl⟩ := r1
    have hst : PO X (some (.UnaryOp .USub (.Constant (.int 1) k p1) p2)) (tPart (tUn (rU fun i => .int (-i)) (tC (.int 1)))) := po_some (pe_un un_neg pe_int)
    refine wpAny_Slice (thn (po_none.run pins s1 σ H1 (fun o H2 => o = none ∧ H2 = H1) I1 ⟨rfl, rfl⟩) fun vl s2 ⟨l, H2, I2, pl, el, e2⟩ => ?_)
    subst el e2
    refine thn (po_none.run pins s2 σ H2 (fun o H3 => o = none ∧ H3 = H2) I2 ⟨rfl, rfl⟩) fun vu s3 ⟨u, H3, I3, pu, eu, e3⟩ => ?_
    subst eu e3
    refine thn (hst.run pins s3 σ H3 (fun o H4 => o = some (-1) ∧ H4 = H3) I3 ⟨1, rfl, -1, rfl, rfl, rfl⟩) fun vs s4 ⟨o, H4, I4, ps, eo, e4⟩ => ?_
    subst eo e4
    have I5 : L2.Inv X pins σ H4 { s4 with heap := s4.heap.push { cls := .type "slice", data := .fields #[vl, vu, vs] } } := I4.kept (t' := s4.toks) fun b ob q => Heap.get?_push_of_some _ q
    show wpAny (model X.prog X.w) X.A (subscriptTail e (.Slice none none (some (.UnaryOp .USub (.Constant (.int 1) k p1) p2)) p3) (.str y t) (.ref s4.heap.objs.size)) (EP X pins σ Q) X.xe { s4 with heap := s4.heap.push { cls := .type "slice", data := .fields #[vl, vu, vs] } }
    refine tail_any (ops := [.str y t, .ref s4.heap.objs.size]) (typeIs_str _ y t) (PySem.F.slot_str_getitem.lookup) ?_ (by with_unfolding_all rfl)
    have q4 := rev_out y hy ok bs w
    cases pl
    cases pu
    obtain ⟨si, rfl⟩ : ∃ tt : Tok, vs = .int (-1) tt := by
      generalize hm : (-1 : Int) = m at ps
      have : ∀ (v : Value) (o : Option Int), IsPart v o → ∀ i, o = some i → ∃ tt, v = .int i tt := fun v o h => by
        cases h with
        | none => exact fun i e => by cases e
        | int j t => exact fun i e => by cases e; exact ⟨t, rfl⟩
      exact this _ _ ps _ rfl
    have hs : PySem.Heap.IsSlice (s4.heap.push { cls := .type "slice", data := .fields #[Value.none, Value.none, Value.int (-1) si] }) s4.heap.objs.size none none (some (-1, si)) := ⟨_, Heap.get?_push_size _ rfl, rfl, rfl⟩
    refine wpAny_getItem_str_slice (l := none) (u := none) (st := some (-1, si)) hs rfl ?_
    have hl : (Txt.sliceBy y none none (-1, si)).length ≤ sizeLine := by rw [step_rev_len]; rw [len_cps, hy]; exact ok.2
    have q5 := q4 si
    have no : ¬ ((((some ((-1 : Int), si)).map (·.1)).getD 1 == 1 && (slicePicked y none none (some (-1, si))).length == y.length) = true) := by
      have : (((some ((-1 : Int), si)).map (·.1)).getD 1 == 1) = false := rfl
      rw [this]; simp
    unfold Txt.sliceBy at hl q5
    rw [if_neg no] at hl q5
    unfold sliceMade
    rw [if_neg no]
    exact ⟨hl, .str _, H4, I5.tok _, ⟨_, rfl⟩, q5⟩
  · exact w.elim
end
end Dl
namespace Dl
open PySem PySem.W L2 PyProof.Rows
theorem ob_or : typeLookup (.type "object") (dunderI Operator.BitOr.info.2) = pure none := by rw [typeLookup_type, builtinLookup_eq_fast]; kernel_rfl
theorem ob_and : typeLookup (.type "object") (dunderI Operator.BitAnd.info.2) = pure none := by rw [typeLookup_type, builtinLookup_eq_fast]; kernel_rfl
theorem ob_sub : typeLookup (.type "object") (dunderI Operator.Sub.info.2) = pure none := by rw [typeLookup_type, builtinLookup_eq_fast]; kernel_rfl
theorem ob_mul : typeLookup (.type "object") (dunderI Operator.Mult.info.2) = pure none := by rw [typeLookup_type, builtinLookup_eq_fast]; kernel_rfl
end Dl

set_option maxHeartbeats 4000000
namespace Dl
open PySem PySem.W L2 PyProof.Rows
def topS (i : Nat) : Stmt := PySem.Challenge.pw_wordprices_k10_texts_of_ratios.main.body.getD i (.Pass ⟨0, 0, 0, 0⟩)
def l_str : List (Ty × Bool) := [(.bi "int", false), (.bi "bool", false), (.bi "NoneType", false), (.bi "str", true), (.bi "list", false), (.bi "tuple", false), (.bi "dict", false), (.ow 31, false)]
def l_Ratio : List (Ty × Bool) := [(.bi "int", false), (.bi "bool", false), (.bi "NoneType", false), (.bi "str", false), (.bi "list", false), (.bi "tuple", false), (.bi "dict", false), (.ow 31, true)]
def l_int : List (Ty × Bool) := [(.bi "int", true), (.bi "bool", true), (.bi "NoneType", false), (.bi "str", false), (.bi "list", false), (.bi "tuple", false), (.bi "dict", false), (.ow 31, false)]
def l_bool : List (Ty × Bool) := [(.bi "int", false), (.bi "bool", true), (.bi "NoneType", false), (.bi "str", false), (.bi "list", false), (.bi "tuple", false), (.bi "dict", false), (.ow 31, false)]
def l_BadRatio : List (Ty × Bool) := [(.bi "int", false), (.bi "bool", false), (.bi "NoneType", false), (.bi "str", false), (.bi "list", false), (.bi "tuple", false), (.bi "dict", false), (.ow 11, true), (.ow 17, false)]
def l_BadText : List (Ty × Bool) := [(.bi "int", false), (.bi "bool", false), (.bi "NoneType", false), (.bi "str", false), (.bi "list", false), (.bi "tuple", false), (.bi "dict", false), (.ow 11, false), (.ow 17, true)]
def flds : List Str := ["part", "line", "word", "value", "at", "place", "name", "paper", "what", "most", "words", "letters", "length", "top", "bottom", "ask", "look", "letter", "task", "sets", "own_signs", "is_hit", "move", "goal", "question", "turns", "steps"]
abbrev s_is_integer : Stmt := topS 4
theorem sc_is_integer : FnScope ["value"] ["value"] (defScope s_is_integer) := ⟨rfl, rfl, rfl, by decide +kernel, rfl, by decide +kernel, by decide +kernel⟩
abbrev s_Ratio___init__ : Stmt := inClass (topS 13) 0
theorem sc_Ratio___init__ : FnScope ["self", "top", "bottom", "part"] ["self", "top", "bottom"] (defScope s_Ratio___init__) := ⟨rfl, rfl, rfl, by decide +kernel, rfl, by decide +kernel, by decide +kernel⟩
abbrev s_figures_told : Stmt := topS 14
theorem sc_figures_told : FnScope ["word", "sign"] ["word"] (defScope s_figures_told) := ⟨rfl, rfl, rfl, by decide +kernel, rfl, by decide +kernel, by decide +kernel⟩
abbrev s_parts_told : Stmt := topS 15
theorem sc_parts_told : FnScope ["word", "sides", "is_less", "top", "bottom"] ["word"] (defScope s_parts_told) := ⟨rfl, rfl, rfl, by decide +kernel, rfl, by decide +kernel, by decide +kernel⟩
abbrev s_Ratio_read : Stmt := inClass (topS 13) 1
theorem sc_Ratio_read : FnScope ["cls", "text", "words", "top", "bottom"] ["cls", "text"] (defScope s_Ratio_read) := ⟨rfl, rfl, rfl, by decide +kernel, rfl, by decide +kernel, by decide +kernel⟩
abbrev s_Ratio___eq__ : Stmt := inClass (topS 13) 18
theorem sc_Ratio___eq__ : FnScope ["self", "other"] ["self", "other"] (defScope s_Ratio___eq__) := ⟨rfl, rfl, rfl, by decide +kernel, rfl, by decide +kernel, by decide +kernel⟩
abbrev s_Ratio___str__ : Stmt := inClass (topS 13) 20
theorem sc_Ratio___str__ : FnScope ["self"] ["self"] (defScope s_Ratio___str__) := ⟨rfl, rfl, rfl, by decide +kernel, rfl, by decide +kernel, by decide +kernel⟩
abbrev s__law_heard : Stmt := topS 24
theorem sc__law_heard : FnScope ["_law_ask", "_law_caught", "_law_found", "error"] ["_law_ask"] (defScope s__law_heard) := ⟨rfl, rfl, rfl, by decide +kernel, rfl, by decide +kernel, by decide +kernel⟩
abbrev s__law_pen : Stmt := topS 17
theorem sc__law_pen : FnScope ["_law_script"] ["_law_script"] (defScope s__law_pen) := ⟨rfl, rfl, rfl, by decide +kernel, rfl, by decide +kernel, by decide +kernel⟩
abbrev s__law_draw : Stmt := topS 18
theorem sc__law_draw : FnScope ["_law_pen_here", "_law_many", "_law_digit", "_law_at", "_law_cell", "_law_great", "_law_mixed"] ["_law_pen_here", "_law_many"] (defScope s__law_draw) := ⟨rfl, rfl, rfl, by decide +kernel, rfl, by decide +kernel, by decide +kernel⟩
abbrev s__law_pick : Stmt := topS 19
theorem sc__law_pick : FnScope ["_law_pen_here", "_law_some"] ["_law_pen_here", "_law_some"] (defScope s__law_pick) := ⟨rfl, rfl, rfl, by decide +kernel, rfl, by decide +kernel, by decide +kernel⟩
abbrev s__law_share : Stmt := topS 20
theorem sc__law_share : FnScope ["_law_one", "_law_other", "_law_first", "_law_last"] ["_law_one", "_law_other"] (defScope s__law_share) := ⟨rfl, rfl, rfl, by decide +kernel, rfl, by decide +kernel, by decide +kernel⟩
abbrev s__law_lowest : Stmt := topS 21
theorem sc__law_lowest : FnScope ["_law_top", "_law_bottom", "_law_part"] ["_law_top", "_law_bottom"] (defScope s__law_lowest) := ⟨rfl, rfl, rfl, by decide +kernel, rfl, by decide +kernel, by decide +kernel⟩
abbrev s__law_number : Stmt := topS 22
theorem sc__law_number : FnScope ["_law_pen_here"] ["_law_pen_here"] (defScope s__law_number) := ⟨rfl, rfl, rfl, by decide +kernel, rfl, by decide +kernel, by decide +kernel⟩
abbrev s__law_pair : Stmt := topS 23
theorem sc__law_pair : FnScope ["_law_pen_here", "_law_bottom"] ["_law_pen_here"] (defScope s__law_pair) := ⟨rfl, rfl, rfl, by decide +kernel, rfl, by decide +kernel, by decide +kernel⟩
abbrev s__law_is_number : Stmt := topS 25
theorem sc__law_is_number : FnScope ["_law_word", "_law_sign"] ["_law_word"] (defScope s__law_is_number) := ⟨rfl, rfl, rfl, by decide +kernel, rfl, by decide +kernel, by decide +kernel⟩
abbrev s__law_wrong : Stmt := topS 26
theorem sc__law_wrong : FnScope ["_law_line", "_law_words", "_law_sides", "_law_top"] ["_law_line"] (defScope s__law_wrong) := ⟨rfl, rfl, rfl, by decide +kernel, rfl, by decide +kernel, by decide +kernel⟩
abbrev s__law_bent : Stmt := topS 27
theorem sc__law_bent : FnScope ["_law_pen_here", "_law_line", "_law_way", "_law_spot", "_law_sign"] ["_law_pen_here", "_law_line"] (defScope s__law_bent) := ⟨rfl, rfl, rfl, by decide +kernel, rfl, by decide +kernel, by decide +kernel⟩
abbrev s_law : Stmt := topS 28
theorem sc_law : FnScope ["_law_script", "_law_pen_here", "_law_turn", "_law_pair_here", "_law_top", "_law_bottom", "_law_wrong_here", "_law_some", "_law_heard_here", "_law_bent_here", "_law_line", "_law_odd", "_law_at"] ["_law_script"] (defScope s_law) := ⟨rfl, rfl, rfl, by decide +kernel, rfl, by decide +kernel, by decide +kernel⟩
def M_is_integer : MS := (sSeq (sRet (mAndV (m1 (isiD l_int) (mVar 0)) (mNotV (m1 (isiD l_bool) (mVar 0)))))
    (fun env => .ok (.nx, env)))
def g_is_integer : List Sl → RF := runB 1 1 false M_is_integer
def M_Ratio___init__ : MS := (sSeq (sIf (mNotT (mTru (mCall g_is_integer (mApp 0 (mArgs [.e (mVar 1)]) (mArgs [])))))
    (sSeq (sRaise 11 [0] (mSeq [(M.ret (.str [116, 111, 112]))]))
    (fun env => .ok (.nx, env)))
    (fun env => .ok (.nx, env)))
    (sSeq (sIf (mOrT (mNotT (mTru (mCall g_is_integer (mApp 0 (mArgs [.e (mVar 2)]) (mArgs []))))) (mB (m2 (eqV noT) (mVar 2) (M.ret (.int 0)))))
    (sSeq (sRaise 11 [0] (mSeq [(M.ret (.str [98, 111, 116, 116, 111, 109]))]))
    (fun env => .ok (.nx, env)))
    (fun env => .ok (.nx, env)))
    (sSeq (sSet 3 (mIf (mB (m2 gtD (mVar 2) (M.ret (.int 0)))) (mBi gGcd (mSeq [(mVar 1), (mVar 2)])) (m1 negD (mBi gGcd (mSeq [(mVar 1), (mVar 2)])))))
    (sSeq (sSetF 0 13 (fun k => k == 31) (m2 fdivD (mVar 1) (mVar 3)))
    (sSeq (sSetF 0 14 (fun k => k == 31) (m2 fdivD (mVar 2) (mVar 3)))
    (fun env => .ok (.nx, env)))))))
def g_Ratio___init__ : List Sl → RF := runB 3 4 false M_Ratio___init__
def M_figures_told : MS := (sSeq (sIf (mOrT (mB (m2 (eqV noT) (mVar 0) (M.ret (.str [])))) (mOrT (mNotT (mTru (mBi gAll (mSeq [(mLc [1] (mIt (mVar 0)) (tgN 1) (M.ret true) (m2 (inV noT noT) (mVar 1) (M.ret (.str [48, 49, 50, 51, 52, 53, 54, 55, 56, 57]))))])))) (mAndT (mB (m2 (eqV noT) (m2 ixD (mVar 0) (M.ret (.int 0))) (M.ret (.str [48])))) (mB (m2 (neV noT) (mVar 0) (M.ret (.str [48])))))))
    (sSeq (sRet (M.ret .non))
    (fun env => .ok (.nx, env)))
    (fun env => .ok (.nx, env)))
    (sSeq (sRet (mBi gInt (mSeq [(mVar 0)])))
    (fun env => .ok (.nx, env))))
def g_figures_told : List Sl → RF := runB 1 2 false M_figures_told
def M_parts_told : MS := (sSeq (sSet 1 (mM1 gSplit (mVar 0) (M.ret (.str [47]))))
    (sSeq (sSet 2 (m2 (eqV noT) (mSl slD (m2 ixD (mVar 1) (M.ret (.int 0))) mNoP (mPart (M.ret (.int 1)))) (M.ret (.str [45]))))
    (sSeq (sSet 3 (mCall g_figures_told (mApp 0 (mArgs [.e (mIf (mTru (mVar 2)) (mSl slD (m2 ixD (mVar 1) (M.ret (.int 0))) (mPart (M.ret (.int 1))) mNoP) (m2 ixD (mVar 1) (M.ret (.int 0))))]) (mArgs []))))
    (sSeq (sSet 4 (mIf (mB (m2 (eqV noT) (mBi gLen (mSeq [(mVar 1)])) (M.ret (.int 2)))) (mCall g_figures_told (mApp 0 (mArgs [.e (m2 ixD (mVar 1) (M.ret (.int 1)))]) (mArgs []))) (M.ret (.int 1))))
    (sSeq (sIf (mOrT (mB (m2 isND (mVar 3) (M.ret .non))) (mOrT (mB (m2 isND (mVar 4) (M.ret .non))) (mOrT (mB (m2 gtD (mBi gLen (mSeq [(mVar 1)])) (M.ret (.int 2)))) (mAndT (mTru (mVar 2)) (mB (m2 (eqV noT) (mVar 3) (M.ret (.int 0))))))))
    (sSeq (sRaise 17 [1, 2] (mSeq [(M.ret (.int 0)), (M.ret (.int 0))]))
    (fun env => .ok (.nx, env)))
    (fun env => .ok (.nx, env)))
    (sSeq (sIf (mAndT (mB (m2 (eqV noT) (mBi gLen (mSeq [(mVar 1)])) (M.ret (.int 2)))) (mOrT (mB (m2 ltD (mVar 4) (M.ret (.int 2)))) (mB (m2 (neV noT) (mBi gGcd (mSeq [(mVar 3), (mVar 4)])) (M.ret (.int 1))))))
    (sSeq (sRaise 17 [1, 2] (mSeq [(M.ret (.int 0)), (M.ret (.int 0))]))
    (fun env => .ok (.nx, env)))
    (fun env => .ok (.nx, env)))
    (sSeq (sRet (mTup (mSeq [(mIf (mTru (mVar 2)) (m1 negD (mVar 3)) (mVar 3)), (mVar 4)])))
    (fun env => .ok (.nx, env)))))))))
def g_parts_told : List Sl → RF := runB 1 5 false M_parts_told
def M_Ratio_read : MS := (sSeq (sIf (mNotT (mTru (m1 (isiD l_str) (mVar 1))))
    (sSeq (sRaise 17 [1, 2] (mSeq [(M.ret (.int 0)), (M.ret (.int 0))]))
    (fun env => .ok (.nx, env)))
    (fun env => .ok (.nx, env)))
    (sSeq (sSet 2 (mM1 gSplit (mVar 1) (M.ret (.str [32]))))
    (sSeq (sAsg (tgTup 2 (tgsCons (tgN 3) (tgsCons (tgN 4) tgsNil))) (mCall g_parts_told (mApp 0 (mArgs [.e (m2 ixD (mVar 2) (M.ret (.int 0)))]) (mArgs []))))
    (sSeq (sIf (mB (m2 gtD (mBi gLen (mSeq [(mVar 2)])) (M.ret (.int 1))))
    (sSeq (sRaise 17 [1, 2] (mSeq [(M.ret (.int 0)), (M.ret (.int 1))]))
    (fun env => .ok (.nx, env)))
    (fun env => .ok (.nx, env)))
    (sSeq (sRet (mNewL 0 131 31 g_Ratio___init__ (mApp 0 (mArgs [.e (mVar 3), .e (mVar 4)]) (mArgs []))))
    (fun env => .ok (.nx, env)))))))
def g_Ratio_read : List Sl → RF := runB 2 5 false M_Ratio_read
def M_Ratio___eq__ : MS := (sSeq (sIf (mTru (m1 (isiD l_Ratio) (mVar 1)))
    (sSeq (sRet (mAndV (m2 (eqV noT) (m1 (attrD noT 13) (mVar 0)) (m1 (attrD noT 13) (mVar 1))) (m2 (eqV noT) (m1 (attrD noT 14) (mVar 0)) (m1 (attrD noT 14) (mVar 1)))))
    (fun env => .ok (.nx, env)))
    (fun env => .ok (.nx, env)))
    (sSeq (sRet (mAndV (mCall g_is_integer (mApp 0 (mArgs [.e (mVar 1)]) (mArgs []))) (mAndV (m2 (eqV noT) (m1 (attrD noT 14) (mVar 0)) (M.ret (.int 1))) (m2 (eqV noT) (m1 (attrD noT 13) (mVar 0)) (mVar 1)))))
    (fun env => .ok (.nx, env))))
def g_Ratio___eq__ : List Sl → RF := runB 2 2 false M_Ratio___eq__
def M_Ratio___str__ : MS := (sSeq (sIf (mB (m2 (eqV noT) (m1 (attrD noT 14) (mVar 0)) (M.ret (.int 1))))
    (sSeq (sRet (m1 fmtD (m1 (attrD noT 13) (mVar 0))))
    (fun env => .ok (.nx, env)))
    (fun env => .ok (.nx, env)))
    (sSeq (sRet (mFs [(m1 fmtD (m1 (attrD noT 13) (mVar 0))), (M.ret (.str [47])), (m1 fmtD (m1 (attrD noT 14) (mVar 0)))] []))
    (fun env => .ok (.nx, env))))
def g_Ratio___str__ : List Sl → RF := runB 1 1 false M_Ratio___str__
def t_eq : Tbl
  | 31 => some g_Ratio___eq__
  | _ => none
def t_str : Tbl
  | 31 => some g_Ratio___str__
  | _ => none
def M__law_heard (r : R D) : MS := (sSeq (sAsg (tgTup 2 (tgsCons (tgN 1) (tgsCons (tgN 2) tgsNil))) (mTup (mSeq [(M.ret .non), (M.ret .non)])))
    (sSeq (sTry 4 3 [(11, true), (17, true)]
    (sSeq (sSet 2 (mAsk 0 r))
    (fun env => .ok (.nx, env)))
    (sSeq (sSet 1 (mVar 3))
    (fun env => .ok (.nx, env))))
    (sSeq (sIf (mB (m2 isND (mVar 1) (M.ret .non)))
    (sSeq (sRet (mLst (mSeq [(mBi (gStr t_str) (mSeq [(mVar 2)]))])))
    (fun env => .ok (.nx, env)))
    (fun env => .ok (.nx, env)))
    (sSeq (sRet (mIf (mTru (m1 (isiD l_BadText) (mVar 1))) (mTup (mSeq [(m1 (attrD noT 1) (mVar 1)), (m1 (attrD noT 2) (mVar 1))])) (mTup (mSeq [(M.ret (.str [111, 100, 100])), (M.ret .non)]))))
    (fun env => .ok (.nx, env))))))
def M__law_pen : MS := (sSeq (sRet (mLst (mSeq [(mBi gListA (mSeq [(mSl slD (mVar 0) mNoP (mPart (M.ret (.int 63))))])), (M.ret (.int 0)), (M.ret (.int 0))])))
    (fun env => .ok (.nx, env)))
def g__law_pen : List Sl → RF := runB 1 1 true M__law_pen
def M__law_draw : MS := (sSeq (sIf (mB (m2 gtD (mIxO 0 (M.ret (.int 2))) (M.ret (.int 0))))
    (sSeq (sSet 2 (m2 modD (mBi gInt (mSeq [(mIxO 0 (M.ret (.int 2)))])) (mVar 1)))
    (sSeq (sSetI 0 (M.ret (.int 2)) (m2 fdivD (mBi gInt (mSeq [(mIxO 0 (M.ret (.int 2)))])) (mVar 1)))
    (sSeq (sRet (mVar 2))
    (fun env => .ok (.nx, env)))))
    (fun env => .ok (.nx, env)))
    (sSeq (sSet 3 (mIxO 0 (M.ret (.int 1))))
    (sSeq (sSetI 0 (M.ret (.int 1)) (m2 addD (mVar 3) (M.ret (.int 1))))
    (sSeq (sSet 4 (m2 addD (m2 mulD (M.ret (.int 40709)) (mVar 3)) (M.ret (.int 4013))))
    (sSeq (sIf (mB (m2 (neV t_eq) (mIxO 0 (M.ret (.int 0))) (mLst (mSeq []))))
    (sSeq (sSet 4 (m2 ixD (mIxO 0 (M.ret (.int 0))) (m2 modD (mBi gInt (mSeq [(mVar 3)])) (mBi gLen (mSeq [(mIxO 0 (M.ret (.int 0)))])))))
    (fun env => .ok (.nx, env)))
    (fun env => .ok (.nx, env)))
    (sSeq (sIf (mAndT (mB (m2 ltD (mVar 3) (mBi gLen (mSeq [(mIxO 0 (M.ret (.int 0)))])))) (mB (m2 geD (mBi gAbs (mSeq [(mVar 4)])) (m2 powD (M.ret (.int 10)) (M.ret (.int 18))))))
    (sSeq (sSet 5 (m2 addD (m2 mulD (M.ret (.int 2)) (m2 subD (mBi gAbs (mSeq [(mVar 4)])) (m2 powD (M.ret (.int 10)) (M.ret (.int 18))))) (mBi gInt (mSeq [(m2 ltD (mVar 4) (M.ret (.int 0)))]))))
    (sSeq (sSetI 0 (M.ret (.int 2)) (m2 fdivD (mBi gInt (mSeq [(mVar 5)])) (mVar 1)))
    (sSeq (sRet (m2 modD (mBi gInt (mSeq [(mVar 5)])) (mVar 1)))
    (fun env => .ok (.nx, env)))))
    (fun env => .ok (.nx, env)))
    (sSeq (sSet 6 (m2 modD (mBi gInt (mSeq [(m2 powD (m2 addD (m2 addD (m2 modD (mBi gInt (mSeq [(mVar 4)])) (M.ret (.int 2147483563))) (m2 mulD (M.ret (.int 50951)) (mVar 3))) (M.ret (.int 1019))) (M.ret (.int 5)))])) (M.ret (.int 2147483629))))
    (sSeq (sSet 6 (m2 modD (mBi gInt (mSeq [(m2 powD (m2 addD (m2 addD (m2 mulD (mVar 6) (m2 addD (m2 mulD (M.ret (.int 2)) (mVar 3)) (M.ret (.int 571)))) (m2 mulD (m2 mulD (M.ret (.int 55207)) (mVar 3)) (mVar 3))) (M.ret (.int 97))) (M.ret (.int 3)))])) (M.ret (.int 2147483587))))
    (sSeq (sRet (m2 modD (mBi gInt (mSeq [(m2 fdivD (mVar 6) (M.ret (.int 32)))])) (mVar 1)))
    (fun env => .ok (.nx, env)))))))))))
def g__law_draw : List Sl → RF := runB 2 7 false M__law_draw
def M__law_pick : MS := (sSeq (sRet (m2 ixD (mVar 1) (mCall g__law_draw (mApp 0 (mArgs [.o 0, .e (mBi gLen (mSeq [(mVar 1)]))]) (mArgs [])))))
    (fun env => .ok (.nx, env)))
def g__law_pick : List Sl → RF := runB 2 2 false M__law_pick
def M__law_share : MS := (sSeq (sPar2 2 3 (mSeq [(mBi gAbs (mSeq [(mVar 0)])), (mBi gAbs (mSeq [(mVar 1)]))]))
    (sSeq (whileD (mB (m2 gtD (mVar 3) (M.ret (.int 0))))
    (sSeq (sPar2 2 3 (mSeq [(mVar 3), (m2 modD (mBi gInt (mSeq [(mVar 2)])) (mVar 3))]))
    (fun env => .ok (.nx, env))) (10 ^ 700))
    (sSeq (sRet (mVar 2))
    (fun env => .ok (.nx, env)))))
def g__law_share : List Sl → RF := runB 2 4 false M__law_share
def M__law_lowest : MS := (sSeq (sSet 2 (mIf (mB (m2 gtD (mVar 1) (M.ret (.int 0)))) (mCall g__law_share (mApp 0 (mArgs [.e (mVar 0), .e (mVar 1)]) (mArgs []))) (m2 subD (M.ret (.int 0)) (mCall g__law_share (mApp 0 (mArgs [.e (mVar 0), .e (mVar 1)]) (mArgs []))))))
    (sSeq (sRet (mTup (mSeq [(m2 fdivD (mVar 0) (mVar 2)), (m2 fdivD (mVar 1) (mVar 2))])))
    (fun env => .ok (.nx, env))))
def g__law_lowest : List Sl → RF := runB 2 3 false M__law_lowest
def M__law_number : MS := (sSeq (sRet (mCall g__law_pick (mApp 0 (mArgs [.o 0, .e (mLst (mSeq [(M.ret (.int 0)), (M.ret (.int 1)), (m1 negD (M.ret (.int 1))), (M.ret (.int 2)), (M.ret (.int 3)), (M.ret (.int 6)), (m1 negD (M.ret (.int 12))), (m2 powD (M.ret (.int 10)) (M.ret (.int 40))), (m2 addD (m2 powD (M.ret (.int 10)) (M.ret (.int 58))) (M.ret (.int 7))), (m2 subD (mCall g__law_draw (mApp 0 (mArgs [.o 0, .e (M.ret (.int 60))]) (mArgs []))) (M.ret (.int 30)))]))]) (mArgs []))))
    (fun env => .ok (.nx, env)))
def g__law_number : List Sl → RF := runB 1 1 false M__law_number
def M__law_pair : MS := (sSeq (sSet 1 (mCall g__law_number (mApp 0 (mArgs [.o 0]) (mArgs []))))
    (sSeq (sRet (mTup (mSeq [(mCall g__law_number (mApp 0 (mArgs [.o 0]) (mArgs []))), (mIf (mB (m2 (neV t_eq) (mVar 1) (M.ret (.int 0)))) (mVar 1) (M.ret (.int 4)))])))
    (fun env => .ok (.nx, env))))
def g__law_pair : List Sl → RF := runB 1 2 false M__law_pair
def M__law_is_number : MS := (sSeq (sIf (mOrT (mB (m2 (eqV t_eq) (mVar 0) (M.ret (.str [])))) (mB (m2 (neV t_eq) (mLc [1] (mIt (mVar 0)) (tgN 1) (mB (m2 (notInV noT t_eq) (mVar 1) (M.ret (.str [48, 49, 50, 51, 52, 53, 54, 55, 56, 57])))) (mVar 1)) (mLst (mSeq [])))))
    (sSeq (sRet (M.ret (.bl false)))
    (fun env => .ok (.nx, env)))
    (fun env => .ok (.nx, env)))
    (sSeq (sRet (mOrV (m2 (eqV t_eq) (mVar 0) (M.ret (.str [48]))) (m2 (neV t_eq) (m2 ixD (mVar 0) (M.ret (.int 0))) (M.ret (.str [48])))))
    (fun env => .ok (.nx, env))))
def g__law_is_number : List Sl → RF := runB 1 2 false M__law_is_number
def M__law_wrong : MS := (sSeq (sSet 1 (mM1 gSplit (mVar 0) (M.ret (.str [32]))))
    (sSeq (sSet 2 (mM1 gSplit (m2 ixD (mVar 1) (M.ret (.int 0))) (M.ret (.str [47]))))
    (sSeq (sSet 3 (mIf (mB (m2 (eqV t_eq) (mSl slD (m2 ixD (mVar 2) (M.ret (.int 0))) mNoP (mPart (M.ret (.int 1)))) (M.ret (.str [45])))) (mSl slD (m2 ixD (mVar 2) (M.ret (.int 0))) (mPart (M.ret (.int 1))) mNoP) (m2 ixD (mVar 2) (M.ret (.int 0)))))
    (sSeq (sIf (mOrT (mNotT (mTru (mCall g__law_is_number (mApp 0 (mArgs [.e (mVar 3)]) (mArgs []))))) (mOrT (mB (m2 (eqV t_eq) (m2 ixD (mVar 2) (M.ret (.int 0))) (M.ret (.str [45, 48])))) (mB (m2 gtD (mBi gLen (mSeq [(mVar 2)])) (M.ret (.int 2))))))
    (sSeq (sRet (M.ret (.int 0)))
    (fun env => .ok (.nx, env)))
    (fun env => .ok (.nx, env)))
    (sSeq (sIf (mB (m2 (eqV t_eq) (mBi gLen (mSeq [(mVar 2)])) (M.ret (.int 2))))
    (sSeq (sIf (mOrT (mNotT (mTru (mCall g__law_is_number (mApp 0 (mArgs [.e (m2 ixD (mVar 2) (M.ret (.int 1)))]) (mArgs []))))) (mOrT (mB (m2 ltD (mBi gInt (mSeq [(m2 ixD (mVar 2) (M.ret (.int 1)))])) (M.ret (.int 2)))) (mB (m2 (neV t_eq) (mCall g__law_share (mApp 0 (mArgs [.e (mBi gInt (mSeq [(mVar 3)])), .e (mBi gInt (mSeq [(m2 ixD (mVar 2) (M.ret (.int 1)))]))]) (mArgs []))) (M.ret (.int 1))))))
    (sSeq (sRet (M.ret (.int 0)))
    (fun env => .ok (.nx, env)))
    (fun env => .ok (.nx, env)))
    (fun env => .ok (.nx, env)))
    (fun env => .ok (.nx, env)))
    (sSeq (sRet (mIf (mB (m2 gtD (mBi gLen (mSeq [(mVar 1)])) (M.ret (.int 1)))) (M.ret (.int 1)) (M.ret .non)))
    (fun env => .ok (.nx, env))))))))
def g__law_wrong : List Sl → RF := runB 1 4 false M__law_wrong
def M__law_bent : MS := (sSeq (sPar2 2 3 (mSeq [(mCall g__law_draw (mApp 0 (mArgs [.o 0, .e (M.ret (.int 5))]) (mArgs []))), (mCall g__law_draw (mApp 0 (mArgs [.o 0, .e (m2 addD (mBi gLen (mSeq [(mVar 1)])) (M.ret (.int 1)))]) (mArgs [])))]))
    (sSeq (sSet 4 (mCall g__law_pick (mApp 0 (mArgs [.o 0, .e (mLst (mSeq [(M.ret (.str [32])), (M.ret (.str [48])), (M.ret (.str [49])), (M.ret (.str [45])), (M.ret (.str [47])), (M.ret (.str [50])), (M.ret (.str [47, 49])), (M.ret (.str [47, 50])), (M.ret (.str [10])), (M.ret (.str [])), (M.ret (.str [48, 48])), (M.ret (.str [32, 49])), (M.ret (.str [43])), (M.ret (.str [120])), (M.ret (.str [45, 45])), (M.ret (.str [54]))]))]) (mArgs []))))
    (sSeq (sIf (mB (m2 (eqV t_eq) (mVar 2) (M.ret (.int 0))))
    (sSeq (sRet (m2 addD (mSl slD (mVar 1) mNoP (mPart (mVar 3))) (mSl slD (mVar 1) (mPart (m2 addD (mVar 3) (M.ret (.int 1)))) mNoP)))
    (fun env => .ok (.nx, env)))
    (fun env => .ok (.nx, env)))
    (sSeq (sIf (mB (m2 ltD (mVar 2) (M.ret (.int 3))))
    (sSeq (sRet (m2 addD (m2 addD (mSl slD (mVar 1) mNoP (mPart (mVar 3))) (mVar 4)) (mSl slD (mVar 1) (mPart (m2 subD (m2 addD (mVar 3) (mVar 2)) (M.ret (.int 1)))) mNoP)))
    (fun env => .ok (.nx, env)))
    (fun env => .ok (.nx, env)))
    (sSeq (sRet (mIf (mB (m2 (eqV t_eq) (mVar 2) (M.ret (.int 3)))) (m2 addD (mVar 1) (mVar 4)) (m2 addD (mVar 4) (mVar 1))))
    (fun env => .ok (.nx, env)))))))
def g__law_bent : List Sl → RF := runB 2 5 false M__law_bent
def M_law : MS := (sSeq (sSetO 1 (mCall g__law_pen (mApp 0 (mArgs [.e (mVar 0)]) (mArgs []))))
    (sSeq (sFor (mRng rng1 (mSeq [(M.ret (.int 14))])) (tgN 2)
    (sSeq (sSet 3 (mCall g__law_pair (mApp 0 (mArgs [.o 1]) (mArgs []))))
    (sSeq (sAsg (tgTup 2 (tgsCons (tgN 4) (tgsCons (tgN 5) tgsNil))) (mCall g__law_lowest (mApp 0 (mArgs [.e (m2 ixD (mVar 3) (M.ret (.int 0))), .e (m2 ixD (mVar 3) (M.ret (.int 1)))]) (mArgs []))))
    (sSeq (sSet 10 (mIf (mB (m2 gtD (mVar 5) (M.ret (.int 1)))) (m2 addD (m2 addD (mBi (gStr t_str) (mSeq [(mVar 4)])) (M.ret (.str [47]))) (mBi (gStr t_str) (mSeq [(mVar 5)]))) (mBi (gStr t_str) (mSeq [(mVar 4)]))))
    (sSeq (sIf (mOrT (mB (m2 (neV t_eq) (mBi (gStr t_str) (mSeq [(mNew 31 g_Ratio___init__ (mApp 0 (mArgs [.e (m2 ixD (mVar 3) (M.ret (.int 0))), .e (m2 ixD (mVar 3) (M.ret (.int 1)))]) (mArgs [])))])) (mVar 10))) (mB (m2 (neV t_eq) (mCm 131 (fun as => if as.length = 1 + (["text"] : List Str).length then kwG g_Ratio_read [0, 1] [] as else .bad) (mApp 1 (mArgs []) (mArgs [.e (mVar 10)]))) (mNew 31 g_Ratio___init__ (mApp 0 (mArgs [.e (mVar 4), .e (mVar 5)]) (mArgs []))))))
    (sSeq (sRet (M.ret (.bl false)))
    (fun env => .ok (.nx, env)))
    (fun env => .ok (.nx, env)))
    (sSeq (sFor (mIt (mLst (mSeq [(mCall g__law_bent (mApp 0 (mArgs [.o 1, .e (mVar 10)]) (mArgs []))), (mCall g__law_bent (mApp 0 (mArgs [.o 1, .e (mCall g__law_bent (mApp 0 (mArgs [.o 1, .e (mVar 10)]) (mArgs [])))]) (mArgs [])))]))) (tgN 9)
    (sSeq (sSet 6 (mCall g__law_wrong (mApp 0 (mArgs [.e (mVar 9)]) (mArgs []))))
    (sSeq (sIf (mB (m2 (neV t_eq) (mLam 4 M__law_heard (mCm 131 g_Ratio_read (mApp 0 (mArgs [.e (mVar 9)]) (mArgs [])))) (mIf (mB (m2 isND (mVar 6) (M.ret .non))) (mLst (mSeq [(mVar 9)])) (mTup (mSeq [(M.ret (.int 0)), (mVar 6)])))))
    (sSeq (sRet (M.ret (.bl false)))
    (fun env => .ok (.nx, env)))
    (fun env => .ok (.nx, env)))
    (fun env => .ok (.nx, env)))))
    (sSeq (sSet 11 (mCall g__law_pick (mApp 0 (mArgs [.o 1, .e (mLst (mSeq [(M.ret .non), (M.ret (.int 0)), (M.ret (.bl true)), (mLst (mSeq [(mVar 10)])), (mTup (mSeq [(mVar 10)])), mDct0, (mNew 31 (fun as => g_Ratio___init__ (as ++ [.pu (.int 1)])) (mApp 0 (mArgs [.e (M.ret (.int 1))]) (mArgs []))), (m2 powD (M.ret (.int 10)) (M.ret (.int 40)))]))]) (mArgs []))))
    (sSeq (sIf (mB (m2 (neV t_eq) (mLam 4 M__law_heard (mCm 131 g_Ratio_read (mApp 0 (mArgs [.e (mVar 11)]) (mArgs [])))) (mTup (mSeq [(M.ret (.int 0)), (M.ret (.int 0))]))))
    (sSeq (sRet (M.ret (.bl false)))
    (fun env => .ok (.nx, env)))
    (fun env => .ok (.nx, env)))
    (fun env => .ok (.nx, env))))))))))
    (sSeq (sSet 7 (mLst (mSeq [(M.ret (.str [])), (M.ret (.str [32])), (M.ret (.str [50, 47, 52])), (M.ret (.str [51, 47, 49])), (M.ret (.str [45, 48])), (M.ret (.str [48, 47, 50])), (M.ret (.str [49, 47, 48])), (M.ret (.str [49, 47, 45, 50])), (M.ret (.str [48, 49])), (M.ret (.str [49, 32, 50])), (M.ret (.str [49, 47, 50, 32])), (M.ret (.str [45, 45, 49])), (M.ret (.str [49, 47, 50, 47, 51])), (M.ret (.str [43, 49])), (M.ret (.str [47, 50])), (M.ret (.str [49, 47]))])))
    (sSeq (sSetO 8 (mLst (mSeq [])))
    (sSeq (sFor (mIt (mVar 7)) (tgN 10)
    (sSeq (sExpr (mMt1 8 gApd (mLam 4 M__law_heard (mCm 131 g_Ratio_read (mApp 0 (mArgs [.e (mVar 10)]) (mArgs []))))))
    (fun env => .ok (.nx, env))))
    (sSeq (sRet (mPkL (eqV t_eq) 8 (mLc [12] (mIt (mLst (mSeq [(M.ret (.int 0)), (M.ret (.int 0)), (M.ret (.int 0)), (M.ret (.int 0)), (M.ret (.int 0)), (M.ret (.int 0)), (M.ret (.int 0)), (M.ret (.int 0)), (M.ret (.int 0)), (M.ret (.int 1)), (M.ret (.int 1)), (M.ret (.int 0)), (M.ret (.int 0)), (M.ret (.int 0)), (M.ret (.int 0)), (M.ret (.int 0))]))) (tgN 12) (M.ret true) (mTup (mSeq [(M.ret (.int 0)), (mVar 12)])))))
    (fun env => .ok (.nx, env))))))))
def g_law : List Sl → RF := runB 1 13 false M_law
structure Fx (P : Program) (w : World) (K : Frag) (mg : Str → Option Value) (base : Heap) (W : Wd) : Prop where
  hK : K = W.K
  inf : ∀ a b, W.fl a = W.fl b → a = b
  inc : ∀ a b, W.cl a = W.cl b → a = b
  hfa : ∀ i, ∃ o, base.get? (W.fa i) = some o
  nf : ∀ k z, flds[k]? = some z → W.fl k = z
  fln : ∀ z : Str, flds.contains z = false → (z.cps.toList.any fun c => c != 46) = true → ∀ k, W.fl k ≠ z
  f_bool : mg "bool" = none
  is_bool : ∀ q ∈ l_bool, kitOne K (tyV W q.1) (.type "bool") = some q.2
  f_isinstance : mg "isinstance" = none
  f_int : mg "int" = none
  is_int : ∀ q ∈ l_int, kitOne K (tyV W q.1) (.type "int") = some q.2
  F_is_integer : ∃ fd, FunD K "is_integer" "is_integer" (defArgs s_is_integer) (defBody s_is_integer) (defScope s_is_integer) [] [] (W.fa 0) fd
  g_is_integer : mg "is_integer" = some (.ref (W.fa 0))
  k_is_integer : keepIn K (.ref (W.fa 0)) = true
  x_BadRatio : XcB P w K mg base W 11 [0]
  g_BadRatio : mg "BadRatio" = some (.ref (W.cl 11))
  g_gcd : mg "gcd" = some (.builtin "math.gcd")
  n_Ratio_top : NoAttr K (W.cl 31) (W.fl 13)
  n_Ratio_bottom : NoAttr K (W.cl 31) (W.fl 14)
  F_Ratio___init__ : ∃ fd, FunD K "__init__" "Ratio.__init__" (defArgs s_Ratio___init__) (defBody s_Ratio___init__) (defScope s_Ratio___init__) [.int 1] [] (W.fa 1) fd
  v_FIGURES : ∃ t, mg "FIGURES" = some (.str "0123456789" t)
  f_all : mg "all" = none
  F_figures_told : ∃ fd, FunD K "figures_told" "figures_told" (defArgs s_figures_told) (defBody s_figures_told) (defScope s_figures_told) [] [] (W.fa 2) fd
  g_figures_told : mg "figures_told" = some (.ref (W.fa 2))
  k_figures_told : keepIn K (.ref (W.fa 2)) = true
  f_len : mg "len" = none
  x_BadText : XcB P w K mg base W 17 [1, 2]
  g_BadText : mg "BadText" = some (.ref (W.cl 17))
  F_parts_told : ∃ fd, FunD K "parts_told" "parts_told" (defArgs s_parts_told) (defBody s_parts_told) (defScope s_parts_told) [] [] (W.fa 3) fd
  f_str : mg "str" = none
  is_str : ∀ q ∈ l_str, kitOne K (tyV W q.1) (.type "str") = some q.2
  g_parts_told : mg "parts_told" = some (.ref (W.fa 3))
  k_parts_told : keepIn K (.ref (W.fa 3)) = true
  mk_Ratio : Mk K (W.cl 31) (W.fa 1)
  hc_Ratio : W.fa 131 = W.cl 31
  i_Ratio : Wp.InsK K (W.cl 31)
  F_Ratio_read : ∃ fd, FunD K "read" "Ratio.read" (defArgs s_Ratio_read) (defBody s_Ratio_read) (defScope s_Ratio_read) [] [] (W.fa 4) fd
  g_Ratio : mg "Ratio" = some (.ref (W.cl 31))
  is_Ratio : ∀ q ∈ l_Ratio, kitOne K (tyV W q.1) (.ref (W.cl 31)) = some q.2
  F_Ratio___eq__ : ∃ fd, FunD K "__eq__" "Ratio.__eq__" (defArgs s_Ratio___eq__) (defBody s_Ratio___eq__) (defScope s_Ratio___eq__) [] [] (W.fa 5) fd
  F_Ratio___str__ : ∃ fd, FunD K "__str__" "Ratio.__str__" (defArgs s_Ratio___str__) (defBody s_Ratio___str__) (defScope s_Ratio___str__) [] [] (W.fa 6) fd
  o_Ratio_eq : findIn K (.ref (W.cl 31)) "__eq__" = some (some (.ref (W.fa 5))) ∧ isFn K (.ref (W.fa 5)) = true
  sub_Ratio : ∀ U ∈ kinds, subIn K (.type U) (.ref (W.cl 31)) = some false
  sup_Ratio : ∀ U ∈ kinds, subIn K (.ref (W.cl 31)) (.type U) = some false
  ne_Ratio : findIn K (.ref (W.cl 31)) "__ne__" = some (some (.builtin "object.__ne__"))
  o_Ratio_str : findIn K (.ref (W.cl 31)) "__str__" = some (some (.ref (W.fa 6))) ∧ isFn K (.ref (W.fa 6)) = true
  ct_WordError : ∀ q ∈ ([(11, true), (17, true)] : List (Nat × Bool)), exmOne K (.ref (W.cl q.1)) (.ref (W.cl 0)) = some q.2
  g_WordError : mg "WordError" = some (.ref (W.cl 0))
  is_BadText : ∀ q ∈ l_BadText, kitOne K (tyV W q.1) (.ref (W.cl 17)) = some q.2
  F__law_heard : ∃ fd, FunD K "_law_heard" "_law_heard" (defArgs s__law_heard) (defBody s__law_heard) (defScope s__law_heard) [] [] (W.fa 7) fd
  f_list : mg "list" = none
  F__law_pen : ∃ fd, FunD K "_law_pen" "_law_pen" (defArgs s__law_pen) (defBody s__law_pen) (defScope s__law_pen) [] [] (W.fa 8) fd
  f_abs : mg "abs" = none
  F__law_draw : ∃ fd, FunD K "_law_draw" "_law_draw" (defArgs s__law_draw) (defBody s__law_draw) (defScope s__law_draw) [] [] (W.fa 9) fd
  g__law_draw : mg "_law_draw" = some (.ref (W.fa 9))
  k__law_draw : keepIn K (.ref (W.fa 9)) = true
  F__law_pick : ∃ fd, FunD K "_law_pick" "_law_pick" (defArgs s__law_pick) (defBody s__law_pick) (defScope s__law_pick) [] [] (W.fa 10) fd
  F__law_share : ∃ fd, FunD K "_law_share" "_law_share" (defArgs s__law_share) (defBody s__law_share) (defScope s__law_share) [] [] (W.fa 11) fd
  g__law_share : mg "_law_share" = some (.ref (W.fa 11))
  k__law_share : keepIn K (.ref (W.fa 11)) = true
  F__law_lowest : ∃ fd, FunD K "_law_lowest" "_law_lowest" (defArgs s__law_lowest) (defBody s__law_lowest) (defScope s__law_lowest) [] [] (W.fa 12) fd
  g__law_pick : mg "_law_pick" = some (.ref (W.fa 10))
  k__law_pick : keepIn K (.ref (W.fa 10)) = true
  F__law_number : ∃ fd, FunD K "_law_number" "_law_number" (defArgs s__law_number) (defBody s__law_number) (defScope s__law_number) [] [] (W.fa 13) fd
  g__law_number : mg "_law_number" = some (.ref (W.fa 13))
  k__law_number : keepIn K (.ref (W.fa 13)) = true
  F__law_pair : ∃ fd, FunD K "_law_pair" "_law_pair" (defArgs s__law_pair) (defBody s__law_pair) (defScope s__law_pair) [] [] (W.fa 14) fd
  F__law_is_number : ∃ fd, FunD K "_law_is_number" "_law_is_number" (defArgs s__law_is_number) (defBody s__law_is_number) (defScope s__law_is_number) [] [] (W.fa 15) fd
  g__law_is_number : mg "_law_is_number" = some (.ref (W.fa 15))
  k__law_is_number : keepIn K (.ref (W.fa 15)) = true
  F__law_wrong : ∃ fd, FunD K "_law_wrong" "_law_wrong" (defArgs s__law_wrong) (defBody s__law_wrong) (defScope s__law_wrong) [] [] (W.fa 16) fd
  F__law_bent : ∃ fd, FunD K "_law_bent" "_law_bent" (defArgs s__law_bent) (defBody s__law_bent) (defScope s__law_bent) [] [] (W.fa 17) fd
  g__law_pen : mg "_law_pen" = some (.ref (W.fa 8))
  k__law_pen : keepIn K (.ref (W.fa 8)) = true
  f_range : mg "range" = none
  g__law_pair : mg "_law_pair" = some (.ref (W.fa 14))
  k__law_pair : keepIn K (.ref (W.fa 14)) = true
  g__law_lowest : mg "_law_lowest" = some (.ref (W.fa 12))
  k__law_lowest : keepIn K (.ref (W.fa 12)) = true
  cr_Ratio : ClX.CRead K (W.cl 31) (.type "type")
  cm_Ratio_read : ∃ p, ClX.CMet K (W.cl 31) (.type "type") "read" p (W.fa 4)
  g__law_bent : mg "_law_bent" = some (.ref (W.fa 17))
  k__law_bent : keepIn K (.ref (W.fa 17)) = true
  g__law_wrong : mg "_law_wrong" = some (.ref (W.fa 16))
  k__law_wrong : keepIn K (.ref (W.fa 16)) = true
  g__law_heard : mg "_law_heard" = some (.ref (W.fa 7))
  F_law : ∃ fd, FunD K "law" "law" (defArgs s_law) (defBody s_law) (defScope s_law) [] [] (W.fa 18) fd ∧ TabL K base mg W fd (("law" : Str) ++ ".<locals>.")
theorem ok_is_integer {P : Program} {w : World} {K : Frag} {mg : Str → Option Value} {base : Heap} {W : Wd} (x : Fx P w K mg base W) : ∃ fd, FunD K "is_integer" "is_integer" (defArgs s_is_integer) (defBody s_is_integer) (defScope s_is_integer) [] [] (W.fa 0) fd ∧ Wp.FnG P w K mg base 1 (W.fa 0) fd ["value"] (spT W false g_is_integer) := by
  obtain ⟨fd, F⟩ := x.F_is_integer
  refine ⟨fd, F, fn_body (N := ["value"]) (ps := ["value"]) (m := M_is_integer) F sc_is_integer fun cdv A out z H0 B E rm gd => ?_⟩
  have c := cd_body (P := P) (w := w) (mg := mg) (base := base) (out := out) (H0 := H0) (E := E) x.hK sc_is_integer.nd rm gd
  exact (pds_cons (pds_ret (pd_and (pd_isi (u := .type "int") c.hK rfl x.f_isinstance (pd_var (i := 0) rfl (.inl rfl) rfl rfl) (pe_bltn (v := .ty "int") rfl x.f_int rfl rfl) rfl (x.hK ▸ x.is_int) rfl) (pd_one (pd_not (pd_isi (u := .type "bool") c.hK rfl x.f_isinstance (pd_var (i := 0) rfl (.inl rfl) rfl rfl) (pe_bltn (v := .ty "bool") rfl x.f_bool rfl rfl) rfl (x.hK ▸ x.is_bool) rfl)))))
    pds_nil)
theorem cal_is_integer {P : Program} {w : World} {K : Frag} {mg : Str → Option Value} {base : Heap} {W : Wd} (x : Fx P w K mg base W) : CalOk P w K mg base 1 (.ref (W.fa 0)) [] (spT W false g_is_integer) := by
  obtain ⟨fd, F, G⟩ := ok_is_integer x
  exact cal_plain G (F.bindsN (fun _ _ _ _ _ _ us hl => match us, hl with | [_], _ => rfl))
theorem ok_Ratio___init__ {P : Program} {w : World} {K : Frag} {mg : Str → Option Value} {base : Heap} {W : Wd} (x : Fx P w K mg base W) : ∃ fd, FunD K "__init__" "Ratio.__init__" (defArgs s_Ratio___init__) (defBody s_Ratio___init__) (defScope s_Ratio___init__) [.int 1] [] (W.fa 1) fd ∧ Wp.FnG P w K mg base 6 (W.fa 1) fd ["self", "top", "bottom"] (spT W false g_Ratio___init__) := by
  obtain ⟨fd, F⟩ := x.F_Ratio___init__
  refine ⟨fd, F, fn_body (N := ["self", "top", "bottom", "part"]) (ps := ["self", "top", "bottom"]) (m := M_Ratio___init__) F sc_Ratio___init__ fun cdv A out z H0 B E rm gd => ?_⟩
  have c := cd_body (P := P) (w := w) (mg := mg) (base := base) (out := out) (H0 := H0) (E := E) x.hK sc_Ratio___init__.nd rm gd
  exact (pds_cons (pds_if (pdt_not (pdt_tru (pd_call (cal_is_integer x) (c.room (by decide)) c.gd c.px rfl x.g_is_integer x.k_is_integer rfl (pds_plain (pdv_e (pd_var (i := 1) rfl (.inl rfl) rfl rfl) pdv_nil (starEach_of rfl)) pdk_nil rfl rfl rfl)) (fun _ => rfl)))
    (pds_cons (pds_raise c.cm c.hK tk_body x.x_BadRatio.xcl (c.room (by decide)) rfl x.g_BadRatio (pda_cons (pd_cs rfl (by decide)) pda_nil (starEach_of rfl)) rfl rfl (by decide))
    pds_nil)
    pds_nil)
    (pds_cons (pds_if (PW.pt (pdw_or (pdt_not (pdt_tru (pd_call (cal_is_integer x) (c.room (by decide)) c.gd c.px rfl x.g_is_integer x.k_is_integer rfl (pds_plain (pdv_e (pd_var (i := 2) rfl (.inl rfl) rfl rfl) pdv_nil (starEach_of rfl)) pdk_nil rfl rfl rfl)) (fun _ => rfl))) (pdw_or1 (pdt_cmp (v_eq (n := 0) c.hK x.inc x.hfa (c.room (by decide)) c.gd no_eq) (pd_var (i := 2) rfl (.inl rfl) rfl rfl) pd_ci rfl))))
    (pds_cons (pds_raise c.cm c.hK tk_body x.x_BadRatio.xcl (c.room (by decide)) rfl x.g_BadRatio (pda_cons (pd_cs rfl (by decide)) pda_nil (starEach_of rfl)) rfl rfl (by decide))
    pds_nil)
    pds_nil)
    (pds_cons (pds_set (i := 3) c.nd rfl (.inl rfl) (pd_ifE (pdt_cmp v_gt (pd_var (i := 2) rfl (.inl rfl) rfl rfl) pd_ci rfl) (pd_biM v_gcd rfl x.g_gcd (pda_cons (pd_var (i := 1) rfl (.inl rfl) rfl rfl) (pda_cons (pd_var (i := 2) rfl (.inl rfl) rfl rfl) pda_nil (starEach_of rfl)) (starEach_of rfl)) rfl rfl) (pd_un v_neg (pd_biM v_gcd rfl x.g_gcd (pda_cons (pd_var (i := 1) rfl (.inl rfl) rfl rfl) (pda_cons (pd_var (i := 2) rfl (.inl rfl) rfl rfl) pda_nil (starEach_of rfl)) (starEach_of rfl)) rfl rfl))) rfl (.inr rfl))
    (pds_cons (pds_setFN (i := 0) (fi := 13) (fo := (fun k => k == 31)) (x.nf 13 _ rfl) c.hK x.inf (fun k hk => by have hk := eq_of_beq hk; subst hk; exact x.hK ▸ x.n_Ratio_top) rfl (.inl rfl) rfl rfl (pd_op v_fdiv (pd_var (i := 1) rfl (.inl rfl) rfl rfl) (pd_var (i := 3) rfl (.inl rfl) rfl rfl)) rfl)
    (pds_cons (pds_setFN (i := 0) (fi := 14) (fo := (fun k => k == 31)) (x.nf 14 _ rfl) c.hK x.inf (fun k hk => by have hk := eq_of_beq hk; subst hk; exact x.hK ▸ x.n_Ratio_bottom) rfl (.inl rfl) rfl rfl (pd_op v_fdiv (pd_var (i := 2) rfl (.inl rfl) rfl rfl) (pd_var (i := 3) rfl (.inl rfl) rfl rfl)) rfl)
    pds_nil)))))
theorem cal_Ratio___init___2 {P : Program} {w : World} {K : Frag} {mg : Str → Option Value} {base : Heap} {W : Wd} (x : Fx P w K mg base W) : CalOk P w K mg base 6 (.ref (W.fa 1)) [] (spT W false (fun as => g_Ratio___init__ (as ++ [.pu (.int 1)]))) := by
  obtain ⟨fd, F, G⟩ := ok_Ratio___init__ x
  obtain ⟨ds, hd, b⟩ := FunD.binds1 (ps := ["self", "top", "bottom"]) F 2 0 (by simp) rfl (fun _ _ _ _ _ _ _ us its hu hi => match us, its, hu, hi with | [_, _], [_], _, _ => ⟨_, rfl, rfl⟩)
  exact cal_dfltT (dds := [.int 1]) G b hd (fun _ => (.cons rfl .nil))
theorem cal_Ratio___init___3 {P : Program} {w : World} {K : Frag} {mg : Str → Option Value} {base : Heap} {W : Wd} (x : Fx P w K mg base W) : CalOk P w K mg base 6 (.ref (W.fa 1)) [] (spT W false g_Ratio___init__) := by
  obtain ⟨fd, F, G⟩ := ok_Ratio___init__ x
  obtain ⟨ds, hd, b⟩ := FunD.binds1 (ps := ["self", "top", "bottom"]) F 3 1 (by simp) rfl (fun _ _ _ _ _ _ _ us its hu hi => match us, its, hu, hi with | [_, _, _], [_], _, _ => ⟨_, rfl, rfl⟩)
  cases hd
  exact cal_plain G b
theorem ok_figures_told {P : Program} {w : World} {K : Frag} {mg : Str → Option Value} {base : Heap} {W : Wd} (x : Fx P w K mg base W) : ∃ fd, FunD K "figures_told" "figures_told" (defArgs s_figures_told) (defBody s_figures_told) (defScope s_figures_told) [] [] (W.fa 2) fd ∧ Wp.FnG P w K mg base 6 (W.fa 2) fd ["word"] (spT W false g_figures_told) := by
  obtain ⟨fd, F⟩ := x.F_figures_told
  refine ⟨fd, F, fn_body (N := ["word", "sign"]) (ps := ["word"]) (m := M_figures_told) F sc_figures_told fun cdv A out z H0 B E rm gd => ?_⟩
  have c := cd_body (P := P) (w := w) (mg := mg) (base := base) (out := out) (H0 := H0) (E := E) x.hK sc_figures_told.nd rm gd
  exact (pds_cons (pds_if (PW.pt (pdw_or (pdt_cmp (v_eq (n := 0) c.hK x.inc x.hfa (c.room (by decide)) c.gd no_eq) (pd_var (i := 0) rfl (.inl rfl) rfl rfl) (pd_cs rfl (by decide)) rfl) (pdw_or (pdt_not (pdt_tru (pd_bi (v_all c.cm) rfl x.f_all rfl (pda_cons (pd_ofO (po_lc (own := [("sign", 1)]) c.cm c.nd (pdi_seq (pd_var (i := 0) rfl (.inl rfl) rfl rfl)) (blkOk_by (N := ["word", "sign"]) (sc := defScope s_figures_told) (by decide +kernel)) (fun _ _ _ _ _ => (pdg_name (i := 1) c.blk.nd rfl (.inl rfl) (.inr rfl) (by decide))) (fun _ _ _ _ _ => pdts_nil) (fun _ _ _ _ _ => (pd_cmp (v_in (n := 0) c.blk.hK x.inc x.hfa (c.blk.room (by decide)) c.blk.gd no_eq no_in) (pd_var (i := 1) rfl (.inl rfl) rfl rfl) (pd_gsE rfl x.v_FIGURES rfl rfl (by decide)) rfl)) (fun _ => rfl) (gok_n 1))) pda_nil (starEach_of rfl)) (by decide) rfl rfl) (fun _ => rfl))) (pdw_or1 (PW.pt (pdw_and (pdt_cmp (v_eq (n := 0) c.hK x.inc x.hfa (c.room (by decide)) c.gd no_eq) (pd_ix v_ix (pd_var (i := 0) rfl (.inl rfl) rfl rfl) pd_ci (fun _ _ => rfl)) (pd_cs rfl (by decide)) rfl) (pdw_and1 (pdt_cmp (v_ne (n := 0) c.hK x.inc x.hfa (c.room (by decide)) c.gd no_eq) (pd_var (i := 0) rfl (.inl rfl) rfl rfl) (pd_cs rfl (by decide)) rfl))))))))
    (pds_cons (pds_ret (pd_const pe_non fun _ => rfl))
    pds_nil)
    pds_nil)
    (pds_cons (pds_ret (pd_biT v_int rfl x.f_int rfl (pda_cons (pd_var (i := 0) rfl (.inl rfl) rfl rfl) pda_nil (starEach_of rfl)) (by decide) rfl rfl))
    pds_nil))
theorem cal_figures_told {P : Program} {w : World} {K : Frag} {mg : Str → Option Value} {base : Heap} {W : Wd} (x : Fx P w K mg base W) : CalOk P w K mg base 6 (.ref (W.fa 2)) [] (spT W false g_figures_told) := by
  obtain ⟨fd, F, G⟩ := ok_figures_told x
  exact cal_plain G (F.bindsN (fun _ _ _ _ _ _ us hl => match us, hl with | [_], _ => rfl))
theorem ok_parts_told {P : Program} {w : World} {K : Frag} {mg : Str → Option Value} {base : Heap} {W : Wd} (x : Fx P w K mg base W) : ∃ fd, FunD K "parts_told" "parts_told" (defArgs s_parts_told) (defBody s_parts_told) (defScope s_parts_told) [] [] (W.fa 3) fd ∧ Wp.FnG P w K mg base 7 (W.fa 3) fd ["word"] (spT W false g_parts_told) := by
  obtain ⟨fd, F⟩ := x.F_parts_told
  refine ⟨fd, F, fn_body (N := ["word", "sides", "is_less", "top", "bottom"]) (ps := ["word"]) (m := M_parts_told) F sc_parts_told fun cdv A out z H0 B E rm gd => ?_⟩
  have c := cd_body (P := P) (w := w) (mg := mg) (base := base) (out := out) (H0 := H0) (E := E) x.hK sc_parts_told.nd rm gd
  exact (pds_cons (pds_set (i := 1) c.nd rfl (.inl rfl) (pd_ofO (po_split (pd_var (i := 0) rfl (.inl rfl) rfl rfl) (pd_cs rfl (by decide)) rfl rfl rfl)) rfl (.inr rfl))
    (pds_cons (pds_set (i := 2) c.nd rfl (.inl rfl) (pd_cmp (v_eq (n := 0) c.hK x.inc x.hfa (c.room (by decide)) c.gd no_eq) (pd_sl (v_sl c.hK) (pd_ix v_ix (pd_var (i := 1) rfl (.inl rfl) rfl rfl) pd_ci (fun _ _ => rfl)) pp_none (pp_some pd_ci)) (pd_cs rfl (by decide)) rfl) rfl (.inr rfl))
    (pds_cons (pds_set (i := 3) c.nd rfl (.inl rfl) (pd_call (cal_figures_told x) (c.room (by decide)) c.gd c.px rfl x.g_figures_told x.k_figures_told rfl (pds_plain (pdv_e (pd_ifE (pdt_tru (pd_var (i := 2) rfl (.inl rfl) rfl rfl) (fun _ => rfl)) (pd_sl (v_sl c.hK) (pd_ix v_ix (pd_var (i := 1) rfl (.inl rfl) rfl rfl) pd_ci (fun _ _ => rfl)) (pp_some pd_ci) pp_none) (pd_ix v_ix (pd_var (i := 1) rfl (.inl rfl) rfl rfl) pd_ci (fun _ _ => rfl))) pdv_nil (starEach_of rfl)) pdk_nil rfl rfl rfl)) rfl (.inr rfl))
    (pds_cons (pds_set (i := 4) c.nd rfl (.inl rfl) (pd_ifE (pdt_cmp (v_eq (n := 0) c.hK x.inc x.hfa (c.room (by decide)) c.gd no_eq) (pd_bi v_len rfl x.f_len rfl (pda_cons (pd_var (i := 1) rfl (.inl rfl) rfl rfl) pda_nil (starEach_of rfl)) (by decide) rfl rfl) pd_ci rfl) (pd_call (cal_figures_told x) (c.room (by decide)) c.gd c.px rfl x.g_figures_told x.k_figures_told rfl (pds_plain (pdv_e (pd_ix v_ix (pd_var (i := 1) rfl (.inl rfl) rfl rfl) pd_ci (fun _ _ => rfl)) pdv_nil (starEach_of rfl)) pdk_nil rfl rfl rfl)) pd_ci) rfl (.inr rfl))
    (pds_cons (pds_if (PW.pt (pdw_or (pdt_cmp v_isN (pd_var (i := 3) rfl (.inl rfl) rfl rfl) (pd_const pe_non fun _ => rfl) rfl) (pdw_or (pdt_cmp v_isN (pd_var (i := 4) rfl (.inl rfl) rfl rfl) (pd_const pe_non fun _ => rfl) rfl) (pdw_or (pdt_cmp v_gt (pd_bi v_len rfl x.f_len rfl (pda_cons (pd_var (i := 1) rfl (.inl rfl) rfl rfl) pda_nil (starEach_of rfl)) (by decide) rfl rfl) pd_ci rfl) (pdw_or1 (PW.pt (pdw_and (pdt_tru (pd_var (i := 2) rfl (.inl rfl) rfl rfl) (fun _ => rfl)) (pdw_and1 (pdt_cmp (v_eq (n := 0) c.hK x.inc x.hfa (c.room (by decide)) c.gd no_eq) (pd_var (i := 3) rfl (.inl rfl) rfl rfl) pd_ci rfl)))))))))
    (pds_cons (pds_raise c.cm c.hK tk_body x.x_BadText.xcl (c.room (by decide)) rfl x.g_BadText (pda_cons pd_ci (pda_cons pd_ci pda_nil (starEach_of rfl)) (starEach_of rfl)) rfl rfl (by decide))
    pds_nil)
    pds_nil)
    (pds_cons (pds_if (PW.pt (pdw_and (pdt_cmp (v_eq (n := 0) c.hK x.inc x.hfa (c.room (by decide)) c.gd no_eq) (pd_bi v_len rfl x.f_len rfl (pda_cons (pd_var (i := 1) rfl (.inl rfl) rfl rfl) pda_nil (starEach_of rfl)) (by decide) rfl rfl) pd_ci rfl) (pdw_and1 (PW.pt (pdw_or (pdt_cmp v_lt (pd_var (i := 4) rfl (.inl rfl) rfl rfl) pd_ci rfl) (pdw_or1 (pdt_cmp (v_ne (n := 0) c.hK x.inc x.hfa (c.room (by decide)) c.gd no_eq) (pd_biM v_gcd rfl x.g_gcd (pda_cons (pd_var (i := 3) rfl (.inl rfl) rfl rfl) (pda_cons (pd_var (i := 4) rfl (.inl rfl) rfl rfl) pda_nil (starEach_of rfl)) (starEach_of rfl)) rfl rfl) pd_ci rfl)))))))
    (pds_cons (pds_raise c.cm c.hK tk_body x.x_BadText.xcl (c.room (by decide)) rfl x.g_BadText (pda_cons pd_ci (pda_cons pd_ci pda_nil (starEach_of rfl)) (starEach_of rfl)) rfl rfl (by decide))
    pds_nil)
    pds_nil)
    (pds_cons (pds_ret (pd_tup (pda_cons (pd_ifE (pdt_tru (pd_var (i := 2) rfl (.inl rfl) rfl rfl) (fun _ => rfl)) (pd_un v_neg (pd_var (i := 3) rfl (.inl rfl) rfl rfl)) (pd_var (i := 3) rfl (.inl rfl) rfl rfl)) (pda_cons (pd_var (i := 4) rfl (.inl rfl) rfl rfl) pda_nil (starEach_of rfl)) (starEach_of rfl))))
    pds_nil)))))))
theorem cal_parts_told {P : Program} {w : World} {K : Frag} {mg : Str → Option Value} {base : Heap} {W : Wd} (x : Fx P w K mg base W) : CalOk P w K mg base 7 (.ref (W.fa 3)) [] (spT W false g_parts_told) := by
  obtain ⟨fd, F, G⟩ := ok_parts_told x
  exact cal_plain G (F.bindsN (fun _ _ _ _ _ _ us hl => match us, hl with | [_], _ => rfl))
theorem ok_Ratio_read {P : Program} {w : World} {K : Frag} {mg : Str → Option Value} {base : Heap} {W : Wd} (x : Fx P w K mg base W) : ∃ fd, FunD K "read" "Ratio.read" (defArgs s_Ratio_read) (defBody s_Ratio_read) (defScope s_Ratio_read) [] [] (W.fa 4) fd ∧ Wp.FnG P w K mg base 8 (W.fa 4) fd ["cls", "text"] (spT W false g_Ratio_read) := by
  obtain ⟨fd, F⟩ := x.F_Ratio_read
  refine ⟨fd, F, fn_body (N := ["cls", "text", "words", "top", "bottom"]) (ps := ["cls", "text"]) (m := M_Ratio_read) F sc_Ratio_read fun cdv A out z H0 B E rm gd => ?_⟩
  have c := cd_body (P := P) (w := w) (mg := mg) (base := base) (out := out) (H0 := H0) (E := E) x.hK sc_Ratio_read.nd rm gd
  exact (pds_cons (pds_if (pdt_not (pdt_tru (pd_isi (u := .type "str") c.hK rfl x.f_isinstance (pd_var (i := 1) rfl (.inl rfl) rfl rfl) (pe_bltn (v := .ty "str") rfl x.f_str rfl rfl) rfl (x.hK ▸ x.is_str) rfl) (fun _ => rfl)))
    (pds_cons (pds_raise c.cm c.hK tk_body x.x_BadText.xcl (c.room (by decide)) rfl x.g_BadText (pda_cons pd_ci (pda_cons pd_ci pda_nil (starEach_of rfl)) (starEach_of rfl)) rfl rfl (by decide))
    pds_nil)
    pds_nil)
    (pds_cons (pds_set (i := 2) c.nd rfl (.inl rfl) (pd_ofO (po_split (pd_var (i := 1) rfl (.inl rfl) rfl rfl) (pd_cs rfl (by decide)) rfl rfl rfl)) rfl (.inr rfl))
    (pds_cons (pds_asg (vs := [3, 4]) (pd_call (cal_parts_told x) (c.room (by decide)) c.gd c.px rfl x.g_parts_told x.k_parts_told rfl (pds_plain (pdv_e (pd_ix v_ix (pd_var (i := 2) rfl (.inl rfl) rfl rfl) pd_ci (fun _ _ => rfl)) pdv_nil (starEach_of rfl)) pdk_nil rfl rfl rfl)) (pdg_tup (n := 2) c.cm (pdgs_cons (pdg_name (i := 3) c.nd rfl (.inl rfl) (.inr rfl) (by decide)) (pdgs_cons (pdg_name (i := 4) c.nd rfl (.inl rfl) (.inr rfl) (by decide)) pdgs_nil rfl) rfl) rfl rfl) rfl rfl rfl (gok_tup (gok_cons (gok_n 3) (gok_cons (gok_n 4) gok_nil))))
    (pds_cons (pds_if (pdt_cmp v_gt (pd_bi v_len rfl x.f_len rfl (pda_cons (pd_var (i := 2) rfl (.inl rfl) rfl rfl) pda_nil (starEach_of rfl)) (by decide) rfl rfl) pd_ci rfl)
    (pds_cons (pds_raise c.cm c.hK tk_body x.x_BadText.xcl (c.room (by decide)) rfl x.g_BadText (pda_cons pd_ci (pda_cons pd_ci pda_nil (starEach_of rfl)) (starEach_of rfl)) rfl rfl (by decide))
    pds_nil)
    pds_nil)
    (pds_cons (pds_ret (pd_ofO (po_newL (i := 0) (n := 6) x.hc_Ratio (x.hK ▸ x.i_Ratio) x.mk_Ratio (cal_Ratio___init___3 x) (c.room (by decide)) c.gd c.px rfl (.inl rfl) rfl rfl (pds_plain (pdv_e (pd_var (i := 3) rfl (.inl rfl) rfl rfl) (pdv_e (pd_var (i := 4) rfl (.inl rfl) rfl rfl) pdv_nil (starEach_of rfl)) (starEach_of rfl)) pdk_nil rfl rfl rfl))))
    pds_nil)))))
theorem cal_Ratio_read {P : Program} {w : World} {K : Frag} {mg : Str → Option Value} {base : Heap} {W : Wd} (x : Fx P w K mg base W) : CalOk P w K mg base 8 (.ref (W.fa 4)) [] (spT W false g_Ratio_read) := by
  obtain ⟨fd, F, G⟩ := ok_Ratio_read x
  exact cal_plain G (F.bindsN (fun _ _ _ _ _ _ us hl => match us, hl with | [_, _], _ => rfl))
theorem cal_Ratio_read_1_text {P : Program} {w : World} {K : Frag} {mg : Str → Option Value} {base : Heap} {W : Wd} (x : Fx P w K mg base W) : CalOk P w K mg base 8 (.ref (W.fa 4)) ["text"] (spT W false (fun as => if as.length = 1 + (["text"] : List Str).length then kwG g_Ratio_read [0, 1] [] as else .bad)) := by
  obtain ⟨fd, F, G⟩ := ok_Ratio_read x
  have kb := kb_pick (ps := ["cls", "text"]) (ks := ["text"]) (n := 1) (ix := [0, 1]) F (fun _ _ _ _ _ _ us ws hu hw => match us, ws, hu, hw with | [_], [_], _, _ => rfl)
  exact cal_kw (ix := [0, 1]) (dvs := []) (dds := []) G kb (fun vs zs _ _ => by rw [List.append_nil]) (fun _ => .nil)
theorem ok_Ratio___eq__ {P : Program} {w : World} {K : Frag} {mg : Str → Option Value} {base : Heap} {W : Wd} (x : Fx P w K mg base W) : ∃ fd, FunD K "__eq__" "Ratio.__eq__" (defArgs s_Ratio___eq__) (defBody s_Ratio___eq__) (defScope s_Ratio___eq__) [] [] (W.fa 5) fd ∧ Wp.FnG P w K mg base 6 (W.fa 5) fd ["self", "other"] (spT W false g_Ratio___eq__) := by
  obtain ⟨fd, F⟩ := x.F_Ratio___eq__
  refine ⟨fd, F, fn_body (N := ["self", "other"]) (ps := ["self", "other"]) (m := M_Ratio___eq__) F sc_Ratio___eq__ fun cdv A out z H0 B E rm gd => ?_⟩
  have c := cd_body (P := P) (w := w) (mg := mg) (base := base) (out := out) (H0 := H0) (E := E) x.hK sc_Ratio___eq__.nd rm gd
  exact (pds_cons (pds_if (pdt_tru (pd_isi (u := .ref (W.cl 31)) c.hK rfl x.f_isinstance (pd_var (i := 1) rfl (.inl rfl) rfl rfl) (pe_glob (v := .ref (W.cl 31)) rfl x.g_Ratio rfl) rfl (x.hK ▸ x.is_Ratio) rfl) (fun _ => rfl))
    (pds_cons (pds_ret (pd_and (pd_cmp (v_eq (n := 0) c.hK x.inc x.hfa (c.room (by decide)) c.gd no_eq) (pd_attrN (n := 0) (fi := 13) (x.nf 13 _ rfl) c.hK x.inf (c.room (by decide)) c.gd no_pr (pd_var (i := 0) rfl (.inl rfl) rfl rfl) rfl) (pd_attrN (n := 0) (fi := 13) (x.nf 13 _ rfl) c.hK x.inf (c.room (by decide)) c.gd no_pr (pd_var (i := 1) rfl (.inl rfl) rfl rfl) rfl) rfl) (pd_one (pd_cmp (v_eq (n := 0) c.hK x.inc x.hfa (c.room (by decide)) c.gd no_eq) (pd_attrN (n := 0) (fi := 14) (x.nf 14 _ rfl) c.hK x.inf (c.room (by decide)) c.gd no_pr (pd_var (i := 0) rfl (.inl rfl) rfl rfl) rfl) (pd_attrN (n := 0) (fi := 14) (x.nf 14 _ rfl) c.hK x.inf (c.room (by decide)) c.gd no_pr (pd_var (i := 1) rfl (.inl rfl) rfl rfl) rfl) rfl))))
    pds_nil)
    pds_nil)
    (pds_cons (pds_ret (pd_and (pd_call (cal_is_integer x) (c.room (by decide)) c.gd c.px rfl x.g_is_integer x.k_is_integer rfl (pds_plain (pdv_e (pd_var (i := 1) rfl (.inl rfl) rfl rfl) pdv_nil (starEach_of rfl)) pdk_nil rfl rfl rfl)) (pd_and (pd_cmp (v_eq (n := 0) c.hK x.inc x.hfa (c.room (by decide)) c.gd no_eq) (pd_attrN (n := 0) (fi := 14) (x.nf 14 _ rfl) c.hK x.inf (c.room (by decide)) c.gd no_pr (pd_var (i := 0) rfl (.inl rfl) rfl rfl) rfl) pd_ci rfl) (pd_one (pd_cmp (v_eq (n := 0) c.hK x.inc x.hfa (c.room (by decide)) c.gd no_eq) (pd_attrN (n := 0) (fi := 13) (x.nf 13 _ rfl) c.hK x.inf (c.room (by decide)) c.gd no_pr (pd_var (i := 0) rfl (.inl rfl) rfl rfl) rfl) (pd_var (i := 1) rfl (.inl rfl) rfl rfl) rfl)))))
    pds_nil))
theorem cal_Ratio___eq__ {P : Program} {w : World} {K : Frag} {mg : Str → Option Value} {base : Heap} {W : Wd} (x : Fx P w K mg base W) : CalOk P w K mg base 6 (.ref (W.fa 5)) [] (spT W false g_Ratio___eq__) := by
  obtain ⟨fd, F, G⟩ := ok_Ratio___eq__ x
  exact cal_plain G (F.bindsN (fun _ _ _ _ _ _ us hl => match us, hl with | [_, _], _ => rfl))
theorem ok_Ratio___str__ {P : Program} {w : World} {K : Frag} {mg : Str → Option Value} {base : Heap} {W : Wd} (x : Fx P w K mg base W) : ∃ fd, FunD K "__str__" "Ratio.__str__" (defArgs s_Ratio___str__) (defBody s_Ratio___str__) (defScope s_Ratio___str__) [] [] (W.fa 6) fd ∧ Wp.FnG P w K mg base 6 (W.fa 6) fd ["self"] (spT W false g_Ratio___str__) := by
  obtain ⟨fd, F⟩ := x.F_Ratio___str__
  refine ⟨fd, F, fn_body (N := ["self"]) (ps := ["self"]) (m := M_Ratio___str__) F sc_Ratio___str__ fun cdv A out z H0 B E rm gd => ?_⟩
  have c := cd_body (P := P) (w := w) (mg := mg) (base := base) (out := out) (H0 := H0) (E := E) x.hK sc_Ratio___str__.nd rm gd
  exact (pds_cons (pds_if (pdt_cmp (v_eq (n := 0) c.hK x.inc x.hfa (c.room (by decide)) c.gd no_eq) (pd_attrN (n := 0) (fi := 14) (x.nf 14 _ rfl) c.hK x.inf (c.room (by decide)) c.gd no_pr (pd_var (i := 0) rfl (.inl rfl) rfl rfl) rfl) pd_ci rfl)
    (pds_cons (pds_ret (pd_joined1 (pd_fmt (pd_attrN (n := 0) (fi := 13) (x.nf 13 _ rfl) c.hK x.inf (c.room (by decide)) c.gd no_pr (pd_var (i := 0) rfl (.inl rfl) rfl rfl) rfl))))
    pds_nil)
    pds_nil)
    (pds_cons (pds_ret (pd_joined (.cons (pd_fmt (pd_attrN (n := 0) (fi := 13) (x.nf 13 _ rfl) c.hK x.inf (c.room (by decide)) c.gd no_pr (pd_var (i := 0) rfl (.inl rfl) rfl rfl) rfl)) (.cons (pd_cs rfl (by decide)) (.cons (pd_fmt (pd_attrN (n := 0) (fi := 14) (x.nf 14 _ rfl) c.hK x.inf (c.room (by decide)) c.gd no_pr (pd_var (i := 0) rfl (.inl rfl) rfl rfl) rfl)) .nil)))))
    pds_nil))
theorem cal_Ratio___str__ {P : Program} {w : World} {K : Frag} {mg : Str → Option Value} {base : Heap} {W : Wd} (x : Fx P w K mg base W) : CalOk P w K mg base 6 (.ref (W.fa 6)) [] (spT W false g_Ratio___str__) := by
  obtain ⟨fd, F, G⟩ := ok_Ratio___str__ x
  exact cal_plain G (F.bindsN (fun _ _ _ _ _ _ us hl => match us, hl with | [_], _ => rfl))
theorem T_t_eq {X : Cx} {W : Wd} (x : Fx X.prog X.w X.K X.mg X.base W) : ∀ c g, t_eq c = some g → EqL X W 6 c g := fun c g h => by
  unfold t_eq at h
  split at h
  · cases h; exact ⟨⟨_, x.o_Ratio_eq.1, x.o_Ratio_eq.2, (cal_Ratio___eq__ x).mono (by decide)⟩, x.sub_Ratio, x.sup_Ratio, x.ne_Ratio⟩
  · cases h
theorem T_t_str {X : Cx} {W : Wd} (x : Fx X.prog X.w X.K X.mg X.base W) : ∀ c g, t_str c = some g → StL X W 6 "__str__" c g := fun c g h => by
  unfold t_str at h
  split at h
  · cases h; exact ⟨⟨_, x.o_Ratio_str.1, x.o_Ratio_str.2, (cal_Ratio___str__ x).mono (by decide)⟩⟩
  · cases h
theorem hd__law_heard {X : Cx} {W : Wd} (x : Fx X.prog X.w X.K X.mg X.base W) (gd : X.A.guards = some []) {g : Addr} {cdv : Value} {s : Shared} {H : Hp} {B : Bs} {Eg : XK} {r : R D} (rm : Room 8 (X.A.deeper (envOfC "_law_heard" (defScope s__law_heard) s.heap.objs.size g cdv))) (ask : AskOk (gotX X ["_law_ask", "_law_caught", "_law_found", "error"] "_law_heard" (defScope s__law_heard) g cdv s H Eg) W B "_law_ask" 0 r) : PSs (gotX X ["_law_ask", "_law_caught", "_law_found", "error"] "_law_heard" (defScope s__law_heard) g cdv s H Eg) (defBody s__law_heard) (tS W B Eg false (M__law_heard r)) := by
  have c := cd_body (P := X.prog) (w := X.w) (mg := X.mg) (base := X.base) (out := X.stack) (H0 := H) (E := Eg) x.hK sc__law_heard.nd rm gd
  exact (pds_cons (pds_asg (vs := [1, 2]) (pd_tup (pda_cons (pd_const pe_non fun _ => rfl) (pda_cons (pd_const pe_non fun _ => rfl) pda_nil (starEach_of rfl)) (starEach_of rfl))) (pdg_tup (n := 2) c.cm (pdgs_cons (pdg_name (i := 1) c.nd rfl (.inl rfl) (.inr rfl) (by decide)) (pdgs_cons (pdg_name (i := 2) c.nd rfl (.inl rfl) (.inr rfl) (by decide)) pdgs_nil rfl) rfl) rfl rfl) rfl rfl rfl (gok_tup (gok_cons (gok_n 1) (gok_cons (gok_n 2) gok_nil))))
    (pds_cons (pds_try (i := 3) (ct := [(11, true), (17, true)]) rfl rfl sc__law_heard.nd rfl rfl ⟨rfl, rfl, .inl x.g_WordError⟩ rfl tk_body x.ct_WordError (fun B' E' pn xe hT hA hP tk pso => (fun ct => (pds_cons (pds_set (i := 2) ct.nd rfl (.inl rfl) (ask B' pn xe (fun cls d _ H => E' cls d H) E' _ _ hT hA hP tk (fun _ _ _ _ h => h)) rfl (.inr rfl))
    pds_nil)) (c.tr tk)) (fun a pn B' => (pds_cons (pds_set (i := 1) sc__law_heard.nd rfl (.inl rfl) (pd_var (i := 3) rfl (.inl rfl) rfl rfl) rfl (.inr rfl))
    pds_nil)))
    (pds_cons (pds_if (pdt_cmp v_isN (pd_var (i := 1) rfl (.inl rfl) rfl rfl) (pd_const pe_non fun _ => rfl) rfl)
    (pds_cons (pds_ret (pd_ofO (po_lst (pda_cons (pd_biT (v_str (n := 6) (c.room (by decide)) c.gd c.px (T_t_str x)) rfl x.f_str rfl (pda_cons (pd_var (i := 2) rfl (.inl rfl) rfl rfl) pda_nil (starEach_of rfl)) (by decide) rfl rfl) pda_nil (starEach_of rfl)))))
    pds_nil)
    pds_nil)
    (pds_cons (pds_ret (pd_ifE (pdt_tru (pd_isi (u := .ref (W.cl 17)) c.hK rfl x.f_isinstance (pd_var (i := 1) rfl (.inl rfl) rfl rfl) (pe_glob (v := .ref (W.cl 17)) rfl x.g_BadText rfl) rfl (x.hK ▸ x.is_BadText) rfl) (fun _ => rfl)) (pd_tup (pda_cons (pd_attrN (n := 0) (fi := 1) (x.nf 1 _ rfl) c.hK x.inf (c.room (by decide)) c.gd no_pr (pd_var (i := 1) rfl (.inl rfl) rfl rfl) rfl) (pda_cons (pd_attrN (n := 0) (fi := 2) (x.nf 2 _ rfl) c.hK x.inf (c.room (by decide)) c.gd no_pr (pd_var (i := 1) rfl (.inl rfl) rfl rfl) rfl) pda_nil (starEach_of rfl)) (starEach_of rfl))) (pd_tup (pda_cons (pd_cs rfl (by decide)) (pda_cons (pd_const pe_non fun _ => rfl) pda_nil (starEach_of rfl)) (starEach_of rfl)))))
    pds_nil))))
theorem ok__law_pen {P : Program} {w : World} {K : Frag} {mg : Str → Option Value} {base : Heap} {W : Wd} (x : Fx P w K mg base W) : ∃ fd, FunD K "_law_pen" "_law_pen" (defArgs s__law_pen) (defBody s__law_pen) (defScope s__law_pen) [] [] (W.fa 8) fd ∧ Wp.FnG P w K mg base 1 (W.fa 8) fd ["_law_script"] (spT W true g__law_pen) := by
  obtain ⟨fd, F⟩ := x.F__law_pen
  refine ⟨fd, F, fn_body (N := ["_law_script"]) (ps := ["_law_script"]) (m := M__law_pen) F sc__law_pen fun cdv A out z H0 B E rm gd => ?_⟩
  have c := cd_body (P := P) (w := w) (mg := mg) (base := base) (out := out) (H0 := H0) (E := E) x.hK sc__law_pen.nd rm gd
  exact (pds_cons (pds_retO (po_lst (pda_cons (pd_ofO (po_biT (v_listA c.cm) rfl x.f_list rfl (pda_cons (pd_sl (v_sl c.hK) (pd_var (i := 0) rfl (.inl rfl) rfl rfl) pp_none (pp_some pd_ci)) pda_nil (starEach_of rfl)) (by decide) rfl rfl)) (pda_cons pd_ci (pda_cons pd_ci pda_nil (starEach_of rfl)) (starEach_of rfl)) (starEach_of rfl))))
    pds_nil)
theorem cal__law_pen {P : Program} {w : World} {K : Frag} {mg : Str → Option Value} {base : Heap} {W : Wd} (x : Fx P w K mg base W) : CalOk P w K mg base 1 (.ref (W.fa 8)) [] (spT W true g__law_pen) := by
  obtain ⟨fd, F, G⟩ := ok__law_pen x
  exact cal_plain G (F.bindsN (fun _ _ _ _ _ _ us hl => match us, hl with | [_], _ => rfl))
theorem ok__law_draw {P : Program} {w : World} {K : Frag} {mg : Str → Option Value} {base : Heap} {W : Wd} (x : Fx P w K mg base W) : ∃ fd, FunD K "_law_draw" "_law_draw" (defArgs s__law_draw) (defBody s__law_draw) (defScope s__law_draw) [] [] (W.fa 9) fd ∧ Wp.FnG P w K mg base 12 (W.fa 9) fd ["_law_pen_here", "_law_many"] (spT W false g__law_draw) := by
  obtain ⟨fd, F⟩ := x.F__law_draw
  refine ⟨fd, F, fn_body (N := ["_law_pen_here", "_law_many", "_law_digit", "_law_at", "_law_cell", "_law_great", "_law_mixed"]) (ps := ["_law_pen_here", "_law_many"]) (m := M__law_draw) F sc__law_draw fun cdv A out z H0 B E rm gd => ?_⟩
  have c := cd_body (P := P) (w := w) (mg := mg) (base := base) (out := out) (H0 := H0) (E := E) x.hK sc__law_draw.nd rm gd
  exact (pds_cons (pds_if (pdt_cmp v_gt (pd_ixO (i := 0) rfl (.inl rfl) rfl rfl pd_ci (fun _ _ => rfl)) pd_ci rfl)
    (pds_cons (pds_set (i := 2) c.nd rfl (.inl rfl) (pd_op v_mod (pd_biT v_int rfl x.f_int rfl (pda_cons (pd_ixO (i := 0) rfl (.inl rfl) rfl rfl pd_ci (fun _ _ => rfl)) pda_nil (starEach_of rfl)) (by decide) rfl rfl) (pd_var (i := 1) rfl (.inl rfl) rfl rfl)) rfl (.inr rfl))
    (pds_cons (pds_setI (i := 0) rfl (.inl rfl) rfl rfl (pd_op v_fdiv (pd_biT v_int rfl x.f_int rfl (pda_cons (pd_ixO (i := 0) rfl (.inl rfl) rfl rfl pd_ci (fun _ _ => rfl)) pda_nil (starEach_of rfl)) (by decide) rfl rfl) (pd_var (i := 1) rfl (.inl rfl) rfl rfl)) pd_ci (fun _ => rfl) rfl rfl rfl)
    (pds_cons (pds_ret (pd_var (i := 2) rfl (.inl rfl) rfl rfl))
    pds_nil)))
    pds_nil)
    (pds_cons (pds_set (i := 3) c.nd rfl (.inl rfl) (pd_ixO (i := 0) rfl (.inl rfl) rfl rfl pd_ci (fun _ _ => rfl)) rfl (.inr rfl))
    (pds_cons (pds_setI (i := 0) rfl (.inl rfl) rfl rfl (pd_op v_add (pd_var (i := 3) rfl (.inl rfl) rfl rfl) pd_ci) pd_ci (fun _ => rfl) rfl rfl rfl)
    (pds_cons (pds_set (i := 4) c.nd rfl (.inl rfl) (pd_op v_add (pd_op v_mul pd_ci (pd_var (i := 3) rfl (.inl rfl) rfl rfl)) pd_ci) rfl (.inr rfl))
    (pds_cons (pds_if (pdt_cmp (v_ne (n := 6) c.hK x.inc x.hfa (c.room (by decide)) c.gd (T_t_eq x)) (pd_ixO (i := 0) rfl (.inl rfl) rfl rfl pd_ci (fun _ _ => rfl)) (pd_ofO (po_lst pda_nil)) rfl)
    (pds_cons (pds_set (i := 4) c.nd rfl (.inl rfl) (pd_ix v_ix (pd_ixO (i := 0) rfl (.inl rfl) rfl rfl pd_ci (fun _ _ => rfl)) (pd_op v_mod (pd_biT v_int rfl x.f_int rfl (pda_cons (pd_var (i := 3) rfl (.inl rfl) rfl rfl) pda_nil (starEach_of rfl)) (by decide) rfl rfl) (pd_bi v_len rfl x.f_len rfl (pda_cons (pd_ixO (i := 0) rfl (.inl rfl) rfl rfl pd_ci (fun _ _ => rfl)) pda_nil (starEach_of rfl)) (by decide) rfl rfl)) (fun _ _ => rfl)) rfl (.inr rfl))
    pds_nil)
    pds_nil)
    (pds_cons (pds_if (PW.pt (pdw_and (pdt_cmp v_lt (pd_var (i := 3) rfl (.inl rfl) rfl rfl) (pd_bi v_len rfl x.f_len rfl (pda_cons (pd_ixO (i := 0) rfl (.inl rfl) rfl rfl pd_ci (fun _ _ => rfl)) pda_nil (starEach_of rfl)) (by decide) rfl rfl) rfl) (pdw_and1 (pdt_cmp v_ge (pd_bi v_abs rfl x.f_abs rfl (pda_cons (pd_var (i := 4) rfl (.inl rfl) rfl rfl) pda_nil (starEach_of rfl)) (by decide) rfl rfl) (pd_op v_pow pd_ci pd_ci) rfl))))
    (pds_cons (pds_set (i := 5) c.nd rfl (.inl rfl) (pd_op v_add (pd_op v_mul pd_ci (pd_op v_sub (pd_bi v_abs rfl x.f_abs rfl (pda_cons (pd_var (i := 4) rfl (.inl rfl) rfl rfl) pda_nil (starEach_of rfl)) (by decide) rfl rfl) (pd_op v_pow pd_ci pd_ci))) (pd_biT v_int rfl x.f_int rfl (pda_cons (pd_cmp v_lt (pd_var (i := 4) rfl (.inl rfl) rfl rfl) pd_ci rfl) pda_nil (starEach_of rfl)) (by decide) rfl rfl)) rfl (.inr rfl))
    (pds_cons (pds_setI (i := 0) rfl (.inl rfl) rfl rfl (pd_op v_fdiv (pd_biT v_int rfl x.f_int rfl (pda_cons (pd_var (i := 5) rfl (.inl rfl) rfl rfl) pda_nil (starEach_of rfl)) (by decide) rfl rfl) (pd_var (i := 1) rfl (.inl rfl) rfl rfl)) pd_ci (fun _ => rfl) rfl rfl rfl)
    (pds_cons (pds_ret (pd_op v_mod (pd_biT v_int rfl x.f_int rfl (pda_cons (pd_var (i := 5) rfl (.inl rfl) rfl rfl) pda_nil (starEach_of rfl)) (by decide) rfl rfl) (pd_var (i := 1) rfl (.inl rfl) rfl rfl)))
    pds_nil)))
    pds_nil)
    (pds_cons (pds_set (i := 6) c.nd rfl (.inl rfl) (pd_op v_mod (pd_biT v_int rfl x.f_int rfl (pda_cons (pd_op v_pow (pd_op v_add (pd_op v_add (pd_op v_mod (pd_biT v_int rfl x.f_int rfl (pda_cons (pd_var (i := 4) rfl (.inl rfl) rfl rfl) pda_nil (starEach_of rfl)) (by decide) rfl rfl) pd_ci) (pd_op v_mul pd_ci (pd_var (i := 3) rfl (.inl rfl) rfl rfl))) pd_ci) pd_ci) pda_nil (starEach_of rfl)) (by decide) rfl rfl) pd_ci) rfl (.inr rfl))
    (pds_cons (pds_set (i := 6) c.nd rfl (.inl rfl) (pd_op v_mod (pd_biT v_int rfl x.f_int rfl (pda_cons (pd_op v_pow (pd_op v_add (pd_op v_add (pd_op v_mul (pd_var (i := 6) rfl (.inl rfl) rfl rfl) (pd_op v_add (pd_op v_mul pd_ci (pd_var (i := 3) rfl (.inl rfl) rfl rfl)) pd_ci)) (pd_op v_mul (pd_op v_mul pd_ci (pd_var (i := 3) rfl (.inl rfl) rfl rfl)) (pd_var (i := 3) rfl (.inl rfl) rfl rfl))) pd_ci) pd_ci) pda_nil (starEach_of rfl)) (by decide) rfl rfl) pd_ci) rfl (.inr rfl))
    (pds_cons (pds_ret (pd_op v_mod (pd_biT v_int rfl x.f_int rfl (pda_cons (pd_op v_fdiv (pd_var (i := 6) rfl (.inl rfl) rfl rfl) pd_ci) pda_nil (starEach_of rfl)) (by decide) rfl rfl) (pd_var (i := 1) rfl (.inl rfl) rfl rfl)))
    pds_nil)))))))))
theorem cal__law_draw {P : Program} {w : World} {K : Frag} {mg : Str → Option Value} {base : Heap} {W : Wd} (x : Fx P w K mg base W) : CalOk P w K mg base 12 (.ref (W.fa 9)) [] (spT W false g__law_draw) := by
  obtain ⟨fd, F, G⟩ := ok__law_draw x
  exact cal_plain G (F.bindsN (fun _ _ _ _ _ _ us hl => match us, hl with | [_, _], _ => rfl))
theorem ok__law_pick {P : Program} {w : World} {K : Frag} {mg : Str → Option Value} {base : Heap} {W : Wd} (x : Fx P w K mg base W) : ∃ fd, FunD K "_law_pick" "_law_pick" (defArgs s__law_pick) (defBody s__law_pick) (defScope s__law_pick) [] [] (W.fa 10) fd ∧ Wp.FnG P w K mg base 13 (W.fa 10) fd ["_law_pen_here", "_law_some"] (spT W false g__law_pick) := by
  obtain ⟨fd, F⟩ := x.F__law_pick
  refine ⟨fd, F, fn_body (N := ["_law_pen_here", "_law_some"]) (ps := ["_law_pen_here", "_law_some"]) (m := M__law_pick) F sc__law_pick fun cdv A out z H0 B E rm gd => ?_⟩
  have c := cd_body (P := P) (w := w) (mg := mg) (base := base) (out := out) (H0 := H0) (E := E) x.hK sc__law_pick.nd rm gd
  exact (pds_cons (pds_ret (pd_ix v_ix (pd_var (i := 1) rfl (.inl rfl) rfl rfl) (pd_call (cal__law_draw x) (c.room (by decide)) c.gd c.px rfl x.g__law_draw x.k__law_draw rfl (pds_plain (pdv_o (i := 0) rfl (.inl rfl) rfl rfl (pdv_e (pd_bi v_len rfl x.f_len rfl (pda_cons (pd_var (i := 1) rfl (.inl rfl) rfl rfl) pda_nil (starEach_of rfl)) (by decide) rfl rfl) pdv_nil (starEach_of rfl))) pdk_nil rfl rfl rfl)) (fun _ _ => rfl)))
    pds_nil)
theorem cal__law_pick {P : Program} {w : World} {K : Frag} {mg : Str → Option Value} {base : Heap} {W : Wd} (x : Fx P w K mg base W) : CalOk P w K mg base 13 (.ref (W.fa 10)) [] (spT W false g__law_pick) := by
  obtain ⟨fd, F, G⟩ := ok__law_pick x
  exact cal_plain G (F.bindsN (fun _ _ _ _ _ _ us hl => match us, hl with | [_, _], _ => rfl))
theorem ok__law_share {P : Program} {w : World} {K : Frag} {mg : Str → Option Value} {base : Heap} {W : Wd} (x : Fx P w K mg base W) : ∃ fd, FunD K "_law_share" "_law_share" (defArgs s__law_share) (defBody s__law_share) (defScope s__law_share) [] [] (W.fa 11) fd ∧ Wp.FnG P w K mg base 1 (W.fa 11) fd ["_law_one", "_law_other"] (spT W false g__law_share) := by
  obtain ⟨fd, F⟩ := x.F__law_share
  refine ⟨fd, F, fn_body (N := ["_law_one", "_law_other", "_law_first", "_law_last"]) (ps := ["_law_one", "_law_other"]) (m := M__law_share) F sc__law_share fun cdv A out z H0 B E rm gd => ?_⟩
  have c := cd_body (P := P) (w := w) (mg := mg) (base := base) (out := out) (H0 := H0) (E := E) x.hK sc__law_share.nd rm gd
  exact (pds_cons (pds_par2 (i := 2) (j := 3) c.cm c.nd rfl rfl (by decide) rfl rfl (pda_cons (pd_bi v_abs rfl x.f_abs rfl (pda_cons (pd_var (i := 0) rfl (.inl rfl) rfl rfl) pda_nil (starEach_of rfl)) (by decide) rfl rfl) (pda_cons (pd_bi v_abs rfl x.f_abs rfl (pda_cons (pd_var (i := 1) rfl (.inl rfl) rfl rfl) pda_nil (starEach_of rfl)) (by decide) rfl rfl) pda_nil (starEach_of rfl)) (starEach_of rfl)) (by rfl) rfl)
    (pds_cons (pds_while (n := (10 ^ 700)) po_body (pdt_cmp v_gt (pd_var (i := 3) rfl (.inl rfl) rfl rfl) pd_ci rfl)
    (pds_cons (pds_par2 (i := 2) (j := 3) c.cm c.nd rfl rfl (by decide) rfl rfl (pda_cons (pd_var (i := 3) rfl (.inl rfl) rfl rfl) (pda_cons (pd_op v_mod (pd_biT v_int rfl x.f_int rfl (pda_cons (pd_var (i := 2) rfl (.inl rfl) rfl rfl) pda_nil (starEach_of rfl)) (by decide) rfl rfl) (pd_var (i := 3) rfl (.inl rfl) rfl rfl)) pda_nil (starEach_of rfl)) (starEach_of rfl)) (by rfl) rfl)
    pds_nil))
    (pds_cons (pds_ret (pd_var (i := 2) rfl (.inl rfl) rfl rfl))
    pds_nil)))
theorem cal__law_share {P : Program} {w : World} {K : Frag} {mg : Str → Option Value} {base : Heap} {W : Wd} (x : Fx P w K mg base W) : CalOk P w K mg base 1 (.ref (W.fa 11)) [] (spT W false g__law_share) := by
  obtain ⟨fd, F, G⟩ := ok__law_share x
  exact cal_plain G (F.bindsN (fun _ _ _ _ _ _ us hl => match us, hl with | [_, _], _ => rfl))
theorem ok__law_lowest {P : Program} {w : World} {K : Frag} {mg : Str → Option Value} {base : Heap} {W : Wd} (x : Fx P w K mg base W) : ∃ fd, FunD K "_law_lowest" "_law_lowest" (defArgs s__law_lowest) (defBody s__law_lowest) (defScope s__law_lowest) [] [] (W.fa 12) fd ∧ Wp.FnG P w K mg base 2 (W.fa 12) fd ["_law_top", "_law_bottom"] (spT W false g__law_lowest) := by
  obtain ⟨fd, F⟩ := x.F__law_lowest
  refine ⟨fd, F, fn_body (N := ["_law_top", "_law_bottom", "_law_part"]) (ps := ["_law_top", "_law_bottom"]) (m := M__law_lowest) F sc__law_lowest fun cdv A out z H0 B E rm gd => ?_⟩
  have c := cd_body (P := P) (w := w) (mg := mg) (base := base) (out := out) (H0 := H0) (E := E) x.hK sc__law_lowest.nd rm gd
  exact (pds_cons (pds_set (i := 2) c.nd rfl (.inl rfl) (pd_ifE (pdt_cmp v_gt (pd_var (i := 1) rfl (.inl rfl) rfl rfl) pd_ci rfl) (pd_call (cal__law_share x) (c.room (by decide)) c.gd c.px rfl x.g__law_share x.k__law_share rfl (pds_plain (pdv_e (pd_var (i := 0) rfl (.inl rfl) rfl rfl) (pdv_e (pd_var (i := 1) rfl (.inl rfl) rfl rfl) pdv_nil (starEach_of rfl)) (starEach_of rfl)) pdk_nil rfl rfl rfl)) (pd_op v_sub pd_ci (pd_call (cal__law_share x) (c.room (by decide)) c.gd c.px rfl x.g__law_share x.k__law_share rfl (pds_plain (pdv_e (pd_var (i := 0) rfl (.inl rfl) rfl rfl) (pdv_e (pd_var (i := 1) rfl (.inl rfl) rfl rfl) pdv_nil (starEach_of rfl)) (starEach_of rfl)) pdk_nil rfl rfl rfl)))) rfl (.inr rfl))
    (pds_cons (pds_ret (pd_tup (pda_cons (pd_op v_fdiv (pd_var (i := 0) rfl (.inl rfl) rfl rfl) (pd_var (i := 2) rfl (.inl rfl) rfl rfl)) (pda_cons (pd_op v_fdiv (pd_var (i := 1) rfl (.inl rfl) rfl rfl) (pd_var (i := 2) rfl (.inl rfl) rfl rfl)) pda_nil (starEach_of rfl)) (starEach_of rfl))))
    pds_nil))
theorem cal__law_lowest {P : Program} {w : World} {K : Frag} {mg : Str → Option Value} {base : Heap} {W : Wd} (x : Fx P w K mg base W) : CalOk P w K mg base 2 (.ref (W.fa 12)) [] (spT W false g__law_lowest) := by
  obtain ⟨fd, F, G⟩ := ok__law_lowest x
  exact cal_plain G (F.bindsN (fun _ _ _ _ _ _ us hl => match us, hl with | [_, _], _ => rfl))
theorem ok__law_number {P : Program} {w : World} {K : Frag} {mg : Str → Option Value} {base : Heap} {W : Wd} (x : Fx P w K mg base W) : ∃ fd, FunD K "_law_number" "_law_number" (defArgs s__law_number) (defBody s__law_number) (defScope s__law_number) [] [] (W.fa 13) fd ∧ Wp.FnG P w K mg base 14 (W.fa 13) fd ["_law_pen_here"] (spT W false g__law_number) := by
  obtain ⟨fd, F⟩ := x.F__law_number
  refine ⟨fd, F, fn_body (N := ["_law_pen_here"]) (ps := ["_law_pen_here"]) (m := M__law_number) F sc__law_number fun cdv A out z H0 B E rm gd => ?_⟩
  have c := cd_body (P := P) (w := w) (mg := mg) (base := base) (out := out) (H0 := H0) (E := E) x.hK sc__law_number.nd rm gd
  exact (pds_cons (pds_ret (pd_call (cal__law_pick x) (c.room (by decide)) c.gd c.px rfl x.g__law_pick x.k__law_pick rfl (pds_plain (pdv_o (i := 0) rfl (.inl rfl) rfl rfl (pdv_e (pd_ofO (po_lst (pda_cons pd_ci (pda_cons pd_ci (pda_cons (pd_un v_neg pd_ci) (pda_cons pd_ci (pda_cons pd_ci (pda_cons pd_ci (pda_cons (pd_un v_neg pd_ci) (pda_cons (pd_op v_pow pd_ci pd_ci) (pda_cons (pd_op v_add (pd_op v_pow pd_ci pd_ci) pd_ci) (pda_cons (pd_op v_sub (pd_call (cal__law_draw x) (c.room (by decide)) c.gd c.px rfl x.g__law_draw x.k__law_draw rfl (pds_plain (pdv_o (i := 0) rfl (.inl rfl) rfl rfl (pdv_e pd_ci pdv_nil (starEach_of rfl))) pdk_nil rfl rfl rfl)) pd_ci) pda_nil (starEach_of rfl)) (starEach_of rfl)) (starEach_of rfl)) (starEach_of rfl)) (starEach_of rfl)) (starEach_of rfl)) (starEach_of rfl)) (starEach_of rfl)) (starEach_of rfl)) (starEach_of rfl)))) pdv_nil (starEach_of rfl))) pdk_nil rfl rfl rfl)))
    pds_nil)
theorem cal__law_number {P : Program} {w : World} {K : Frag} {mg : Str → Option Value} {base : Heap} {W : Wd} (x : Fx P w K mg base W) : CalOk P w K mg base 14 (.ref (W.fa 13)) [] (spT W false g__law_number) := by
  obtain ⟨fd, F, G⟩ := ok__law_number x
  exact cal_plain G (F.bindsN (fun _ _ _ _ _ _ us hl => match us, hl with | [_], _ => rfl))
theorem ok__law_pair {P : Program} {w : World} {K : Frag} {mg : Str → Option Value} {base : Heap} {W : Wd} (x : Fx P w K mg base W) : ∃ fd, FunD K "_law_pair" "_law_pair" (defArgs s__law_pair) (defBody s__law_pair) (defScope s__law_pair) [] [] (W.fa 14) fd ∧ Wp.FnG P w K mg base 15 (W.fa 14) fd ["_law_pen_here"] (spT W false g__law_pair) := by
  obtain ⟨fd, F⟩ := x.F__law_pair
  refine ⟨fd, F, fn_body (N := ["_law_pen_here", "_law_bottom"]) (ps := ["_law_pen_here"]) (m := M__law_pair) F sc__law_pair fun cdv A out z H0 B E rm gd => ?_⟩
  have c := cd_body (P := P) (w := w) (mg := mg) (base := base) (out := out) (H0 := H0) (E := E) x.hK sc__law_pair.nd rm gd
  exact (pds_cons (pds_set (i := 1) c.nd rfl (.inl rfl) (pd_call (cal__law_number x) (c.room (by decide)) c.gd c.px rfl x.g__law_number x.k__law_number rfl (pds_plain (pdv_o (i := 0) rfl (.inl rfl) rfl rfl pdv_nil) pdk_nil rfl rfl rfl)) rfl (.inr rfl))
    (pds_cons (pds_ret (pd_tup (pda_cons (pd_call (cal__law_number x) (c.room (by decide)) c.gd c.px rfl x.g__law_number x.k__law_number rfl (pds_plain (pdv_o (i := 0) rfl (.inl rfl) rfl rfl pdv_nil) pdk_nil rfl rfl rfl)) (pda_cons (pd_ifE (pdt_cmp (v_ne (n := 6) c.hK x.inc x.hfa (c.room (by decide)) c.gd (T_t_eq x)) (pd_var (i := 1) rfl (.inl rfl) rfl rfl) pd_ci rfl) (pd_var (i := 1) rfl (.inl rfl) rfl rfl) pd_ci) pda_nil (starEach_of rfl)) (starEach_of rfl))))
    pds_nil))
theorem cal__law_pair {P : Program} {w : World} {K : Frag} {mg : Str → Option Value} {base : Heap} {W : Wd} (x : Fx P w K mg base W) : CalOk P w K mg base 15 (.ref (W.fa 14)) [] (spT W false g__law_pair) := by
  obtain ⟨fd, F, G⟩ := ok__law_pair x
  exact cal_plain G (F.bindsN (fun _ _ _ _ _ _ us hl => match us, hl with | [_], _ => rfl))
theorem ok__law_is_number {P : Program} {w : World} {K : Frag} {mg : Str → Option Value} {base : Heap} {W : Wd} (x : Fx P w K mg base W) : ∃ fd, FunD K "_law_is_number" "_law_is_number" (defArgs s__law_is_number) (defBody s__law_is_number) (defScope s__law_is_number) [] [] (W.fa 15) fd ∧ Wp.FnG P w K mg base 12 (W.fa 15) fd ["_law_word"] (spT W false g__law_is_number) := by
  obtain ⟨fd, F⟩ := x.F__law_is_number
  refine ⟨fd, F, fn_body (N := ["_law_word", "_law_sign"]) (ps := ["_law_word"]) (m := M__law_is_number) F sc__law_is_number fun cdv A out z H0 B E rm gd => ?_⟩
  have c := cd_body (P := P) (w := w) (mg := mg) (base := base) (out := out) (H0 := H0) (E := E) x.hK sc__law_is_number.nd rm gd
  exact (pds_cons (pds_if (PW.pt (pdw_or (pdt_cmp (v_eq (n := 6) c.hK x.inc x.hfa (c.room (by decide)) c.gd (T_t_eq x)) (pd_var (i := 0) rfl (.inl rfl) rfl rfl) (pd_cs rfl (by decide)) rfl) (pdw_or1 (pdt_cmp (v_ne (n := 6) c.hK x.inc x.hfa (c.room (by decide)) c.gd (T_t_eq x)) (pd_ofO (po_lc (own := [("_law_sign", 1)]) c.cm c.nd (pdi_seq (pd_var (i := 0) rfl (.inl rfl) rfl rfl)) (blkOk_by (N := ["_law_word", "_law_sign"]) (sc := defScope s__law_is_number) (by decide +kernel)) (fun _ _ _ _ _ => (pdg_name (i := 1) c.blk.nd rfl (.inl rfl) (.inr rfl) (by decide))) (fun _ _ _ _ _ => (pdts_one (pdt_cmp (v_notin (n := 6) c.blk.hK x.inc x.hfa (c.blk.room (by decide)) c.blk.gd (T_t_eq x) no_in) (pd_var (i := 1) rfl (.inl rfl) rfl rfl) (pd_cs rfl (by decide)) rfl))) (fun _ _ _ _ _ => (pd_var (i := 1) rfl (.inl rfl) rfl rfl)) (fun _ => rfl) (gok_n 1))) (pd_ofO (po_lst pda_nil)) rfl))))
    (pds_cons (pds_ret (pd_const pe_bl fun _ => rfl))
    pds_nil)
    pds_nil)
    (pds_cons (pds_ret (pd_or (pd_cmp (v_eq (n := 6) c.hK x.inc x.hfa (c.room (by decide)) c.gd (T_t_eq x)) (pd_var (i := 0) rfl (.inl rfl) rfl rfl) (pd_cs rfl (by decide)) rfl) (pd_one (pd_cmp (v_ne (n := 6) c.hK x.inc x.hfa (c.room (by decide)) c.gd (T_t_eq x)) (pd_ix v_ix (pd_var (i := 0) rfl (.inl rfl) rfl rfl) pd_ci (fun _ _ => rfl)) (pd_cs rfl (by decide)) rfl))))
    pds_nil))
theorem cal__law_is_number {P : Program} {w : World} {K : Frag} {mg : Str → Option Value} {base : Heap} {W : Wd} (x : Fx P w K mg base W) : CalOk P w K mg base 12 (.ref (W.fa 15)) [] (spT W false g__law_is_number) := by
  obtain ⟨fd, F, G⟩ := ok__law_is_number x
  exact cal_plain G (F.bindsN (fun _ _ _ _ _ _ us hl => match us, hl with | [_], _ => rfl))
theorem ok__law_wrong {P : Program} {w : World} {K : Frag} {mg : Str → Option Value} {base : Heap} {W : Wd} (x : Fx P w K mg base W) : ∃ fd, FunD K "_law_wrong" "_law_wrong" (defArgs s__law_wrong) (defBody s__law_wrong) (defScope s__law_wrong) [] [] (W.fa 16) fd ∧ Wp.FnG P w K mg base 13 (W.fa 16) fd ["_law_line"] (spT W false g__law_wrong) := by
  obtain ⟨fd, F⟩ := x.F__law_wrong
  refine ⟨fd, F, fn_body (N := ["_law_line", "_law_words", "_law_sides", "_law_top"]) (ps := ["_law_line"]) (m := M__law_wrong) F sc__law_wrong fun cdv A out z H0 B E rm gd => ?_⟩
  have c := cd_body (P := P) (w := w) (mg := mg) (base := base) (out := out) (H0 := H0) (E := E) x.hK sc__law_wrong.nd rm gd
  exact (pds_cons (pds_set (i := 1) c.nd rfl (.inl rfl) (pd_ofO (po_split (pd_var (i := 0) rfl (.inl rfl) rfl rfl) (pd_cs rfl (by decide)) rfl rfl rfl)) rfl (.inr rfl))
    (pds_cons (pds_set (i := 2) c.nd rfl (.inl rfl) (pd_ofO (po_split (pd_ix v_ix (pd_var (i := 1) rfl (.inl rfl) rfl rfl) pd_ci (fun _ _ => rfl)) (pd_cs rfl (by decide)) rfl rfl rfl)) rfl (.inr rfl))
    (pds_cons (pds_set (i := 3) c.nd rfl (.inl rfl) (pd_ifE (pdt_cmp (v_eq (n := 6) c.hK x.inc x.hfa (c.room (by decide)) c.gd (T_t_eq x)) (pd_sl (v_sl c.hK) (pd_ix v_ix (pd_var (i := 2) rfl (.inl rfl) rfl rfl) pd_ci (fun _ _ => rfl)) pp_none (pp_some pd_ci)) (pd_cs rfl (by decide)) rfl) (pd_sl (v_sl c.hK) (pd_ix v_ix (pd_var (i := 2) rfl (.inl rfl) rfl rfl) pd_ci (fun _ _ => rfl)) (pp_some pd_ci) pp_none) (pd_ix v_ix (pd_var (i := 2) rfl (.inl rfl) rfl rfl) pd_ci (fun _ _ => rfl))) rfl (.inr rfl))
    (pds_cons (pds_if (PW.pt (pdw_or (pdt_not (pdt_tru (pd_call (cal__law_is_number x) (c.room (by decide)) c.gd c.px rfl x.g__law_is_number x.k__law_is_number rfl (pds_plain (pdv_e (pd_var (i := 3) rfl (.inl rfl) rfl rfl) pdv_nil (starEach_of rfl)) pdk_nil rfl rfl rfl)) (fun _ => rfl))) (pdw_or (pdt_cmp (v_eq (n := 6) c.hK x.inc x.hfa (c.room (by decide)) c.gd (T_t_eq x)) (pd_ix v_ix (pd_var (i := 2) rfl (.inl rfl) rfl rfl) pd_ci (fun _ _ => rfl)) (pd_cs rfl (by decide)) rfl) (pdw_or1 (pdt_cmp v_gt (pd_bi v_len rfl x.f_len rfl (pda_cons (pd_var (i := 2) rfl (.inl rfl) rfl rfl) pda_nil (starEach_of rfl)) (by decide) rfl rfl) pd_ci rfl)))))
    (pds_cons (pds_ret pd_ci)
    pds_nil)
    pds_nil)
    (pds_cons (pds_if (pdt_cmp (v_eq (n := 6) c.hK x.inc x.hfa (c.room (by decide)) c.gd (T_t_eq x)) (pd_bi v_len rfl x.f_len rfl (pda_cons (pd_var (i := 2) rfl (.inl rfl) rfl rfl) pda_nil (starEach_of rfl)) (by decide) rfl rfl) pd_ci rfl)
    (pds_cons (pds_if (PW.pt (pdw_or (pdt_not (pdt_tru (pd_call (cal__law_is_number x) (c.room (by decide)) c.gd c.px rfl x.g__law_is_number x.k__law_is_number rfl (pds_plain (pdv_e (pd_ix v_ix (pd_var (i := 2) rfl (.inl rfl) rfl rfl) pd_ci (fun _ _ => rfl)) pdv_nil (starEach_of rfl)) pdk_nil rfl rfl rfl)) (fun _ => rfl))) (pdw_or (pdt_cmp v_lt (pd_biT v_int rfl x.f_int rfl (pda_cons (pd_ix v_ix (pd_var (i := 2) rfl (.inl rfl) rfl rfl) pd_ci (fun _ _ => rfl)) pda_nil (starEach_of rfl)) (by decide) rfl rfl) pd_ci rfl) (pdw_or1 (pdt_cmp (v_ne (n := 6) c.hK x.inc x.hfa (c.room (by decide)) c.gd (T_t_eq x)) (pd_call (cal__law_share x) (c.room (by decide)) c.gd c.px rfl x.g__law_share x.k__law_share rfl (pds_plain (pdv_e (pd_biT v_int rfl x.f_int rfl (pda_cons (pd_var (i := 3) rfl (.inl rfl) rfl rfl) pda_nil (starEach_of rfl)) (by decide) rfl rfl) (pdv_e (pd_biT v_int rfl x.f_int rfl (pda_cons (pd_ix v_ix (pd_var (i := 2) rfl (.inl rfl) rfl rfl) pd_ci (fun _ _ => rfl)) pda_nil (starEach_of rfl)) (by decide) rfl rfl) pdv_nil (starEach_of rfl)) (starEach_of rfl)) pdk_nil rfl rfl rfl)) pd_ci rfl)))))
    (pds_cons (pds_ret pd_ci)
    pds_nil)
    pds_nil)
    pds_nil)
    pds_nil)
    (pds_cons (pds_ret (pd_ifE (pdt_cmp v_gt (pd_bi v_len rfl x.f_len rfl (pda_cons (pd_var (i := 1) rfl (.inl rfl) rfl rfl) pda_nil (starEach_of rfl)) (by decide) rfl rfl) pd_ci rfl) pd_ci (pd_const pe_non fun _ => rfl)))
    pds_nil))))))
theorem cal__law_wrong {P : Program} {w : World} {K : Frag} {mg : Str → Option Value} {base : Heap} {W : Wd} (x : Fx P w K mg base W) : CalOk P w K mg base 13 (.ref (W.fa 16)) [] (spT W false g__law_wrong) := by
  obtain ⟨fd, F, G⟩ := ok__law_wrong x
  exact cal_plain G (F.bindsN (fun _ _ _ _ _ _ us hl => match us, hl with | [_], _ => rfl))
theorem ok__law_bent {P : Program} {w : World} {K : Frag} {mg : Str → Option Value} {base : Heap} {W : Wd} (x : Fx P w K mg base W) : ∃ fd, FunD K "_law_bent" "_law_bent" (defArgs s__law_bent) (defBody s__law_bent) (defScope s__law_bent) [] [] (W.fa 17) fd ∧ Wp.FnG P w K mg base 14 (W.fa 17) fd ["_law_pen_here", "_law_line"] (spT W false g__law_bent) := by
  obtain ⟨fd, F⟩ := x.F__law_bent
  refine ⟨fd, F, fn_body (N := ["_law_pen_here", "_law_line", "_law_way", "_law_spot", "_law_sign"]) (ps := ["_law_pen_here", "_law_line"]) (m := M__law_bent) F sc__law_bent fun cdv A out z H0 B E rm gd => ?_⟩
  have c := cd_body (P := P) (w := w) (mg := mg) (base := base) (out := out) (H0 := H0) (E := E) x.hK sc__law_bent.nd rm gd
  exact (pds_cons (pds_par2 (i := 2) (j := 3) c.cm c.nd rfl rfl (by decide) rfl rfl (pda_cons (pd_call (cal__law_draw x) (c.room (by decide)) c.gd c.px rfl x.g__law_draw x.k__law_draw rfl (pds_plain (pdv_o (i := 0) rfl (.inl rfl) rfl rfl (pdv_e pd_ci pdv_nil (starEach_of rfl))) pdk_nil rfl rfl rfl)) (pda_cons (pd_call (cal__law_draw x) (c.room (by decide)) c.gd c.px rfl x.g__law_draw x.k__law_draw rfl (pds_plain (pdv_o (i := 0) rfl (.inl rfl) rfl rfl (pdv_e (pd_op v_add (pd_bi v_len rfl x.f_len rfl (pda_cons (pd_var (i := 1) rfl (.inl rfl) rfl rfl) pda_nil (starEach_of rfl)) (by decide) rfl rfl) pd_ci) pdv_nil (starEach_of rfl))) pdk_nil rfl rfl rfl)) pda_nil (starEach_of rfl)) (starEach_of rfl)) (by rfl) rfl)
    (pds_cons (pds_set (i := 4) c.nd rfl (.inl rfl) (pd_call (cal__law_pick x) (c.room (by decide)) c.gd c.px rfl x.g__law_pick x.k__law_pick rfl (pds_plain (pdv_o (i := 0) rfl (.inl rfl) rfl rfl (pdv_e (pd_ofO (po_lst (pda_cons (pd_cs rfl (by decide)) (pda_cons (pd_cs rfl (by decide)) (pda_cons (pd_cs rfl (by decide)) (pda_cons (pd_cs rfl (by decide)) (pda_cons (pd_cs rfl (by decide)) (pda_cons (pd_cs rfl (by decide)) (pda_cons (pd_cs rfl (by decide)) (pda_cons (pd_cs rfl (by decide)) (pda_cons (pd_cs rfl (by decide)) (pda_cons (pd_cs rfl (by decide)) (pda_cons (pd_cs rfl (by decide)) (pda_cons (pd_cs rfl (by decide)) (pda_cons (pd_cs rfl (by decide)) (pda_cons (pd_cs rfl (by decide)) (pda_cons (pd_cs rfl (by decide)) (pda_cons (pd_cs rfl (by decide)) pda_nil (starEach_of rfl)) (starEach_of rfl)) (starEach_of rfl)) (starEach_of rfl)) (starEach_of rfl)) (starEach_of rfl)) (starEach_of rfl)) (starEach_of rfl)) (starEach_of rfl)) (starEach_of rfl)) (starEach_of rfl)) (starEach_of rfl)) (starEach_of rfl)) (starEach_of rfl)) (starEach_of rfl)) (starEach_of rfl)))) pdv_nil (starEach_of rfl))) pdk_nil rfl rfl rfl)) rfl (.inr rfl))
    (pds_cons (pds_if (pdt_cmp (v_eq (n := 6) c.hK x.inc x.hfa (c.room (by decide)) c.gd (T_t_eq x)) (pd_var (i := 2) rfl (.inl rfl) rfl rfl) pd_ci rfl)
    (pds_cons (pds_ret (pd_op v_add (pd_sl (v_sl c.hK) (pd_var (i := 1) rfl (.inl rfl) rfl rfl) pp_none (pp_some (pd_var (i := 3) rfl (.inl rfl) rfl rfl))) (pd_sl (v_sl c.hK) (pd_var (i := 1) rfl (.inl rfl) rfl rfl) (pp_some (pd_op v_add (pd_var (i := 3) rfl (.inl rfl) rfl rfl) pd_ci)) pp_none)))
    pds_nil)
    pds_nil)
    (pds_cons (pds_if (pdt_cmp v_lt (pd_var (i := 2) rfl (.inl rfl) rfl rfl) pd_ci rfl)
    (pds_cons (pds_ret (pd_op v_add (pd_op v_add (pd_sl (v_sl c.hK) (pd_var (i := 1) rfl (.inl rfl) rfl rfl) pp_none (pp_some (pd_var (i := 3) rfl (.inl rfl) rfl rfl))) (pd_var (i := 4) rfl (.inl rfl) rfl rfl)) (pd_sl (v_sl c.hK) (pd_var (i := 1) rfl (.inl rfl) rfl rfl) (pp_some (pd_op v_sub (pd_op v_add (pd_var (i := 3) rfl (.inl rfl) rfl rfl) (pd_var (i := 2) rfl (.inl rfl) rfl rfl)) pd_ci)) pp_none)))
    pds_nil)
    pds_nil)
    (pds_cons (pds_ret (pd_ifE (pdt_cmp (v_eq (n := 6) c.hK x.inc x.hfa (c.room (by decide)) c.gd (T_t_eq x)) (pd_var (i := 2) rfl (.inl rfl) rfl rfl) pd_ci rfl) (pd_op v_add (pd_var (i := 1) rfl (.inl rfl) rfl rfl) (pd_var (i := 4) rfl (.inl rfl) rfl rfl)) (pd_op v_add (pd_var (i := 4) rfl (.inl rfl) rfl rfl) (pd_var (i := 1) rfl (.inl rfl) rfl rfl))))
    pds_nil)))))
theorem cal__law_bent {P : Program} {w : World} {K : Frag} {mg : Str → Option Value} {base : Heap} {W : Wd} (x : Fx P w K mg base W) : CalOk P w K mg base 14 (.ref (W.fa 17)) [] (spT W false g__law_bent) := by
  obtain ⟨fd, F, G⟩ := ok__law_bent x
  exact cal_plain G (F.bindsN (fun _ _ _ _ _ _ us hl => match us, hl with | [_, _], _ => rfl))
theorem ok_law {P : Program} {w : World} {K : Frag} {mg : Str → Option Value} {base : Heap} {W : Wd} (x : Fx P w K mg base W) : ∃ fd, FunD K "law" "law" (defArgs s_law) (defBody s_law) (defScope s_law) [] [] (W.fa 18) fd ∧ Wp.FnG P w K mg base 16 (W.fa 18) fd ["_law_script"] (spT W false g_law) := by
  obtain ⟨fd, F, ⟨co, tb, hco, tbb, mem, uni⟩⟩ := x.F_law
  refine ⟨fd, F, fn_bodyC F hco sc_law fun A out z H0 B E rm gd => ?_⟩
  have c := cd_body (P := P) (w := w) (mg := mg) (base := base) (out := out) (H0 := H0) (E := E) x.hK sc_law.nd rm gd
  exact (pds_cons (pds_setO (i := 1) c.nd rfl (.inl rfl) (po_call (cal__law_pen x) (c.room (by decide)) c.gd c.px rfl x.g__law_pen x.k__law_pen rfl (pds_plain (pdv_e (pd_var (i := 0) rfl (.inl rfl) rfl rfl) pdv_nil (starEach_of rfl)) pdk_nil rfl rfl rfl)) rfl (.inr rfl))
    (pds_cons (pds_for (vs := [2]) po_body c.cm (pdi_rng1 rfl x.f_range (pda_cons pd_ci pda_nil (starEach_of rfl)) rfl) (pdg_name (i := 2) c.nd rfl (.inl rfl) (.inr rfl) (by decide))
    (pds_cons (pds_set (i := 3) c.nd rfl (.inl rfl) (pd_call (cal__law_pair x) (c.room (by decide)) c.gd c.px rfl x.g__law_pair x.k__law_pair rfl (pds_plain (pdv_o (i := 1) rfl (.inl rfl) rfl rfl pdv_nil) pdk_nil rfl rfl rfl)) rfl (.inr rfl))
    (pds_cons (pds_asg (vs := [4, 5]) (pd_call (cal__law_lowest x) (c.room (by decide)) c.gd c.px rfl x.g__law_lowest x.k__law_lowest rfl (pds_plain (pdv_e (pd_ix v_ix (pd_var (i := 3) rfl (.inl rfl) rfl rfl) pd_ci (fun _ _ => rfl)) (pdv_e (pd_ix v_ix (pd_var (i := 3) rfl (.inl rfl) rfl rfl) pd_ci (fun _ _ => rfl)) pdv_nil (starEach_of rfl)) (starEach_of rfl)) pdk_nil rfl rfl rfl)) (pdg_tup (n := 2) c.cm (pdgs_cons (pdg_name (i := 4) c.nd rfl (.inl rfl) (.inr rfl) (by decide)) (pdgs_cons (pdg_name (i := 5) c.nd rfl (.inl rfl) (.inr rfl) (by decide)) pdgs_nil rfl) rfl) rfl rfl) rfl rfl rfl (gok_tup (gok_cons (gok_n 4) (gok_cons (gok_n 5) gok_nil))))
    (pds_cons (pds_set (i := 10) c.nd rfl (.inr rfl) (pd_ifE (pdt_cmp v_gt (pd_var (i := 5) rfl (.inl rfl) rfl rfl) pd_ci rfl) (pd_op v_add (pd_op v_add (pd_biT (v_str (n := 6) (c.room (by decide)) c.gd c.px (T_t_str x)) rfl x.f_str rfl (pda_cons (pd_var (i := 4) rfl (.inl rfl) rfl rfl) pda_nil (starEach_of rfl)) (by decide) rfl rfl) (pd_cs rfl (by decide))) (pd_biT (v_str (n := 6) (c.room (by decide)) c.gd c.px (T_t_str x)) rfl x.f_str rfl (pda_cons (pd_var (i := 5) rfl (.inl rfl) rfl rfl) pda_nil (starEach_of rfl)) (by decide) rfl rfl)) (pd_biT (v_str (n := 6) (c.room (by decide)) c.gd c.px (T_t_str x)) rfl x.f_str rfl (pda_cons (pd_var (i := 4) rfl (.inl rfl) rfl rfl) pda_nil (starEach_of rfl)) (by decide) rfl rfl)) rfl (.inl rfl))
    (pds_cons (pds_if (PW.pt (pdw_or (pdt_cmp (v_ne (n := 6) c.hK x.inc x.hfa (c.room (by decide)) c.gd (T_t_eq x)) (pd_biT (v_str (n := 6) (c.room (by decide)) c.gd c.px (T_t_str x)) rfl x.f_str rfl (pda_cons (pd_ofO (po_new (n := 6) (x.hK ▸ x.i_Ratio) x.mk_Ratio (cal_Ratio___init___3 x) (c.room (by decide)) c.gd c.px rfl x.g_Ratio rfl (pds_plain (pdv_e (pd_ix v_ix (pd_var (i := 3) rfl (.inl rfl) rfl rfl) pd_ci (fun _ _ => rfl)) (pdv_e (pd_ix v_ix (pd_var (i := 3) rfl (.inl rfl) rfl rfl) pd_ci (fun _ _ => rfl)) pdv_nil (starEach_of rfl)) (starEach_of rfl)) pdk_nil rfl rfl rfl))) pda_nil (starEach_of rfl)) (by decide) rfl rfl) (pd_var (i := 10) rfl (.inr (.inl rfl)) rfl rfl) rfl) (pdw_or1 (pdt_cmp (v_ne (n := 6) c.hK x.inc x.hfa (c.room (by decide)) c.gd (T_t_eq x)) (pd_cmeth (ci := 131) (c := 31) x.hc_Ratio x.cr_Ratio x.cm_Ratio_read.choose_spec (cal_Ratio_read_1_text x) (c.room (by decide)) c.gd c.px rfl x.g_Ratio rfl pdv_nil (pdk_cons (pd_var (i := 10) rfl (.inr (.inl rfl)) rfl rfl) pdk_nil) rfl rfl rfl (by decide) rfl) (pd_ofO (po_new (n := 6) (x.hK ▸ x.i_Ratio) x.mk_Ratio (cal_Ratio___init___3 x) (c.room (by decide)) c.gd c.px rfl x.g_Ratio rfl (pds_plain (pdv_e (pd_var (i := 4) rfl (.inl rfl) rfl rfl) (pdv_e (pd_var (i := 5) rfl (.inl rfl) rfl rfl) pdv_nil (starEach_of rfl)) (starEach_of rfl)) pdk_nil rfl rfl rfl))) rfl))))
    (pds_cons (pds_ret (pd_const pe_bl fun _ => rfl))
    pds_nil)
    pds_nil)
    (pds_cons (pds_for (vs := [9]) po_body c.cm (pdi_seq (pd_ofO (po_lst (pda_cons (pd_call (cal__law_bent x) (c.room (by decide)) c.gd c.px rfl x.g__law_bent x.k__law_bent rfl (pds_plain (pdv_o (i := 1) rfl (.inl rfl) rfl rfl (pdv_e (pd_var (i := 10) rfl (.inr (.inl rfl)) rfl rfl) pdv_nil (starEach_of rfl))) pdk_nil rfl rfl rfl)) (pda_cons (pd_call (cal__law_bent x) (c.room (by decide)) c.gd c.px rfl x.g__law_bent x.k__law_bent rfl (pds_plain (pdv_o (i := 1) rfl (.inl rfl) rfl rfl (pdv_e (pd_call (cal__law_bent x) (c.room (by decide)) c.gd c.px rfl x.g__law_bent x.k__law_bent rfl (pds_plain (pdv_o (i := 1) rfl (.inl rfl) rfl rfl (pdv_e (pd_var (i := 10) rfl (.inr (.inl rfl)) rfl rfl) pdv_nil (starEach_of rfl))) pdk_nil rfl rfl rfl)) pdv_nil (starEach_of rfl))) pdk_nil rfl rfl rfl)) pda_nil (starEach_of rfl)) (starEach_of rfl))))) (pdg_name (i := 9) c.nd rfl (.inr rfl) (.inl rfl) (by decide))
    (pds_cons (pds_set (i := 6) c.nd rfl (.inl rfl) (pd_call (cal__law_wrong x) (c.room (by decide)) c.gd c.px rfl x.g__law_wrong x.k__law_wrong rfl (pds_plain (pdv_e (pd_var (i := 9) rfl (.inr (.inl rfl)) rfl rfl) pdv_nil (starEach_of rfl)) pdk_nil rfl rfl rfl)) rfl (.inr rfl))
    (pds_cons (pds_if (pdt_cmp (v_ne (n := 6) c.hK x.inc x.hfa (c.room (by decide)) c.gd (T_t_eq x)) (pd_lamF (k := 8) x.F__law_heard.choose_spec (x.F__law_heard.choose_spec.bindsN (fun _ _ _ _ _ _ us hl => match us, hl with | [_], _ => rfl)) rfl x.g__law_heard sc__law_heard rfl (.inl rfl) (fun cdv s H B Eg r rm ask => hd__law_heard x c.gd (rm.mono (by decide)) ask) tbb rfl mem uni (c.room (by decide)) c.gd c.px (LamX.lamS_by rfl) rfl (fun _ _ _ _ _ => rfl)
      (fun A out s1 H1 E' B f cc rm gd => by
        have cl := cd_lam (E' := E') (out := out) (H := H1) c.hK c.nd rm gd
        exact (pd_cmeth (ci := 131) (c := 31) x.hc_Ratio x.cr_Ratio x.cm_Ratio_read.choose_spec (cal_Ratio_read x) (cl.room (by decide)) cl.gd cl.px rfl x.g_Ratio rfl (pdv_e (pd_var (i := 9) rfl (.inr (.inr rfl)) rfl rfl) pdv_nil (starEach_of rfl)) pdk_nil rfl rfl rfl (by decide) rfl)) rfl rfl rfl rfl) (pd_ifE (pdt_cmp v_isN (pd_var (i := 6) rfl (.inl rfl) rfl rfl) (pd_const pe_non fun _ => rfl) rfl) (pd_ofO (po_lst (pda_cons (pd_var (i := 9) rfl (.inr (.inl rfl)) rfl rfl) pda_nil (starEach_of rfl)))) (pd_tup (pda_cons pd_ci (pda_cons (pd_var (i := 6) rfl (.inl rfl) rfl rfl) pda_nil (starEach_of rfl)) (starEach_of rfl)))) rfl)
    (pds_cons (pds_ret (pd_const pe_bl fun _ => rfl))
    pds_nil)
    pds_nil)
    pds_nil)) (fun _ => rfl) (gok_n 9))
    (pds_cons (pds_set (i := 11) c.nd rfl (.inr rfl) (pd_call (cal__law_pick x) (c.room (by decide)) c.gd c.px rfl x.g__law_pick x.k__law_pick rfl (pds_plain (pdv_o (i := 1) rfl (.inl rfl) rfl rfl (pdv_e (pd_ofO (po_lst (pda_cons (pd_const pe_non fun _ => rfl) (pda_cons pd_ci (pda_cons (pd_const pe_bl fun _ => rfl) (pda_cons (pd_ofO (po_lst (pda_cons (pd_var (i := 10) rfl (.inr (.inl rfl)) rfl rfl) pda_nil (starEach_of rfl)))) (pda_cons (pd_tup (pda_cons (pd_var (i := 10) rfl (.inr (.inl rfl)) rfl rfl) pda_nil (starEach_of rfl))) (pda_cons pd_dct0 (pda_cons (pd_ofO (po_new (n := 6) (x.hK ▸ x.i_Ratio) x.mk_Ratio (cal_Ratio___init___2 x) (c.room (by decide)) c.gd c.px rfl x.g_Ratio rfl (pds_plain (pdv_e pd_ci pdv_nil (starEach_of rfl)) pdk_nil rfl rfl rfl))) (pda_cons (pd_op v_pow pd_ci pd_ci) pda_nil (starEach_of rfl)) (starEach_of rfl)) (starEach_of rfl)) (starEach_of rfl)) (starEach_of rfl)) (starEach_of rfl)) (starEach_of rfl)) (starEach_of rfl)))) pdv_nil (starEach_of rfl))) pdk_nil rfl rfl rfl)) rfl (.inl rfl))
    (pds_cons (pds_if (pdt_cmp (v_ne (n := 6) c.hK x.inc x.hfa (c.room (by decide)) c.gd (T_t_eq x)) (pd_lamF (k := 8) x.F__law_heard.choose_spec (x.F__law_heard.choose_spec.bindsN (fun _ _ _ _ _ _ us hl => match us, hl with | [_], _ => rfl)) rfl x.g__law_heard sc__law_heard rfl (.inl rfl) (fun cdv s H B Eg r rm ask => hd__law_heard x c.gd (rm.mono (by decide)) ask) tbb rfl mem uni (c.room (by decide)) c.gd c.px (LamX.lamS_by rfl) rfl (fun _ _ _ _ _ => rfl)
      (fun A out s1 H1 E' B f cc rm gd => by
        have cl := cd_lam (E' := E') (out := out) (H := H1) c.hK c.nd rm gd
        exact (pd_cmeth (ci := 131) (c := 31) x.hc_Ratio x.cr_Ratio x.cm_Ratio_read.choose_spec (cal_Ratio_read x) (cl.room (by decide)) cl.gd cl.px rfl x.g_Ratio rfl (pdv_e (pd_var (i := 11) rfl (.inr (.inr rfl)) rfl rfl) pdv_nil (starEach_of rfl)) pdk_nil rfl rfl rfl (by decide) rfl)) rfl rfl rfl rfl) (pd_tup (pda_cons pd_ci (pda_cons pd_ci pda_nil (starEach_of rfl)) (starEach_of rfl))) rfl)
    (pds_cons (pds_ret (pd_const pe_bl fun _ => rfl))
    pds_nil)
    pds_nil)
    pds_nil))))))) (fun _ => rfl) (gok_n 2))
    (pds_cons (pds_set (i := 7) c.nd rfl (.inl rfl) (pd_ofO (po_lst (pda_cons (pd_cs rfl (by decide)) (pda_cons (pd_cs rfl (by decide)) (pda_cons (pd_cs rfl (by decide)) (pda_cons (pd_cs rfl (by decide)) (pda_cons (pd_cs rfl (by decide)) (pda_cons (pd_cs rfl (by decide)) (pda_cons (pd_cs rfl (by decide)) (pda_cons (pd_cs rfl (by decide)) (pda_cons (pd_cs rfl (by decide)) (pda_cons (pd_cs rfl (by decide)) (pda_cons (pd_cs rfl (by decide)) (pda_cons (pd_cs rfl (by decide)) (pda_cons (pd_cs rfl (by decide)) (pda_cons (pd_cs rfl (by decide)) (pda_cons (pd_cs rfl (by decide)) (pda_cons (pd_cs rfl (by decide)) pda_nil (starEach_of rfl)) (starEach_of rfl)) (starEach_of rfl)) (starEach_of rfl)) (starEach_of rfl)) (starEach_of rfl)) (starEach_of rfl)) (starEach_of rfl)) (starEach_of rfl)) (starEach_of rfl)) (starEach_of rfl)) (starEach_of rfl)) (starEach_of rfl)) (starEach_of rfl)) (starEach_of rfl)) (starEach_of rfl)))) rfl (.inr rfl))
    (pds_cons (pds_setO (i := 8) c.nd rfl (.inl rfl) (po_lst pda_nil) rfl (.inr rfl))
    (pds_cons (pds_for (vs := [10]) po_body c.cm (pdi_seq (pd_var (i := 7) rfl (.inl rfl) rfl rfl)) (pdg_name (i := 10) c.nd rfl (.inr rfl) (.inl rfl) (by decide))
    (pds_cons (pds_expr (pd_apd (i := 8) rfl (.inl rfl) rfl rfl (pd_lamF (k := 8) x.F__law_heard.choose_spec (x.F__law_heard.choose_spec.bindsN (fun _ _ _ _ _ _ us hl => match us, hl with | [_], _ => rfl)) rfl x.g__law_heard sc__law_heard rfl (.inl rfl) (fun cdv s H B Eg r rm ask => hd__law_heard x c.gd (rm.mono (by decide)) ask) tbb rfl mem uni (c.room (by decide)) c.gd c.px (LamX.lamS_by rfl) rfl (fun _ _ _ _ _ => rfl)
      (fun A out s1 H1 E' B f cc rm gd => by
        have cl := cd_lam (E' := E') (out := out) (H := H1) c.hK c.nd rm gd
        exact (pd_cmeth (ci := 131) (c := 31) x.hc_Ratio x.cr_Ratio x.cm_Ratio_read.choose_spec (cal_Ratio_read x) (cl.room (by decide)) cl.gd cl.px rfl x.g_Ratio rfl (pdv_e (pd_var (i := 10) rfl (.inr (.inr rfl)) rfl rfl) pdv_nil (starEach_of rfl)) pdk_nil rfl rfl rfl (by decide) rfl)) rfl rfl rfl rfl) rfl rfl) rfl)
    pds_nil) (fun _ => rfl) (gok_n 10))
    (pds_cons (pds_ret (pd_pkL (i := 8) (fun _ => (v_eq (n := 6) c.hK x.inc x.hfa (c.room (by decide)) c.gd (T_t_eq x))) rfl (.inl rfl) rfl rfl (pd_ofO (po_lc (own := [("_law_at", 12)]) c.cm c.nd (pdi_seq (pd_ofO (po_lst (pda_cons pd_ci (pda_cons pd_ci (pda_cons pd_ci (pda_cons pd_ci (pda_cons pd_ci (pda_cons pd_ci (pda_cons pd_ci (pda_cons pd_ci (pda_cons pd_ci (pda_cons pd_ci (pda_cons pd_ci (pda_cons pd_ci (pda_cons pd_ci (pda_cons pd_ci (pda_cons pd_ci (pda_cons pd_ci pda_nil (starEach_of rfl)) (starEach_of rfl)) (starEach_of rfl)) (starEach_of rfl)) (starEach_of rfl)) (starEach_of rfl)) (starEach_of rfl)) (starEach_of rfl)) (starEach_of rfl)) (starEach_of rfl)) (starEach_of rfl)) (starEach_of rfl)) (starEach_of rfl)) (starEach_of rfl)) (starEach_of rfl)) (starEach_of rfl))))) (blkOk_by (N := ["_law_script", "_law_pen_here", "_law_turn", "_law_pair_here", "_law_top", "_law_bottom", "_law_wrong_here", "_law_some", "_law_heard_here", "_law_bent_here", "_law_line", "_law_odd", "_law_at"]) (sc := defScope s_law) (by decide +kernel)) (fun _ _ _ _ _ => (pdg_name (i := 12) c.blk.nd rfl (.inl rfl) (.inr rfl) (by decide))) (fun _ _ _ _ _ => pdts_nil) (fun _ _ _ _ _ => (pd_tup (pda_cons pd_ci (pda_cons (pd_var (i := 12) rfl (.inl rfl) rfl rfl) pda_nil (starEach_of rfl)) (starEach_of rfl)))) (fun _ => rfl) (gok_n 12))) rfl))
    pds_nil))))))
theorem cal_law {P : Program} {w : World} {K : Frag} {mg : Str → Option Value} {base : Heap} {W : Wd} (x : Fx P w K mg base W) : CalOk P w K mg base 16 (.ref (W.fa 18)) [] (spT W false g_law) := by
  obtain ⟨fd, F, G⟩ := ok_law x
  exact cal_plain G (F.bindsN (fun _ _ _ _ _ _ us hl => match us, hl with | [_], _ => rfl))
end Dl

set_option maxHeartbeats 4000000
/-! DLY: plain laws: what comes of a function over plain data, told backwards (wp). -/
namespace Dl
open PySem PySem.W L2
/-- what comes of it: a thing for which Q holds, or an exception for which X holds -/
@[irreducible] def wp {α : Type} (r : R α) (Q : α → Prop) (X : Xc → Prop) : Prop := match r with
  | .ok a => Q a
  | .exc x => X x
  | .bad => False
@[irreducible] def wpE {α : Type} (r : RE α) (Q : α → Ev → Prop) (X : Xc → Prop) : Prop := match r with
  | .ok (a, e) => Q a e
  | .exc x => X x
  | .bad => False
@[irreducible] def wpS (r : R (Fl × Ev)) (Z : Fl → Ev → Prop) (X : Xc → Prop) : Prop := match r with
  | .ok (f, e) => Z f e
  | .exc x => X x
  | .bad => False
@[irreducible] def wpF (r : RF) (Q : D → List D → Prop) (X : Xc → Prop) : Prop := match r with
  | .ok (d, o) => Q d o
  | .exc x => X x
  | .bad => False
def noX (_ : Xc) : Prop := False
section
variable {α : Type} {X : Xc → Prop}
theorem wp_o {a : α} {Q : α → Prop} : wp (.ok a) Q X ↔ Q a := by unfold wp; exact Iff.rfl
theorem wp_x {x : Xc} {Q : α → Prop} : wp (.exc x : R α) Q X ↔ X x := by unfold wp; exact Iff.rfl
theorem wp_b {Q : α → Prop} : ¬ wp (.bad : R α) Q X := by unfold wp; exact id
theorem wpE_o {p : α × Ev} {Q : α → Ev → Prop} : wpE (.ok p) Q X ↔ Q p.1 p.2 := by unfold wpE; exact Iff.rfl
theorem wpE_x {x : Xc} {Q : α → Ev → Prop} : wpE (.exc x : RE α) Q X ↔ X x := by unfold wpE; exact Iff.rfl
theorem wpE_b {Q : α → Ev → Prop} : ¬ wpE (.bad : RE α) Q X := by unfold wpE; exact id
theorem wpS_o {p : Fl × Ev} {Z : Fl → Ev → Prop} : wpS (.ok p) Z X ↔ Z p.1 p.2 := by unfold wpS; exact Iff.rfl
theorem wpS_x {x : Xc} {Z : Fl → Ev → Prop} : wpS (.exc x) Z X ↔ X x := by unfold wpS; exact Iff.rfl
theorem wpS_b {Z : Fl → Ev → Prop} : ¬ wpS .bad Z X := by unfold wpS; exact id
theorem wpF_o {p : D × List D} {Q : D → List D → Prop} : wpF (.ok p) Q X ↔ Q p.1 p.2 := by unfold wpF; exact Iff.rfl
theorem wpF_x {x : Xc} {Q : D → List D → Prop} : wpF (.exc x) Q X ↔ X x := by unfold wpF; exact Iff.rfl
theorem wpF_b {Q : D → List D → Prop} : ¬ wpF .bad Q X := by unfold wpF; exact id
end
section
variable {α β : Type} {Q : α → Ev → Prop} {X : Xc → Prop} {env : Ev}
theorem wpE_ok {r : RE α} (h : wpE r Q noX) : ∃ a e, r = .ok (a, e) ∧ Q a e := by
  cases r with
  | ok p => exact ⟨p.1, p.2, rfl, by with_unfolding_all exact h⟩
  | exc x => with_unfolding_all exact h.elim
  | bad => with_unfolding_all exact h.elim
theorem wpF_ok {r : RF} {Q : D → List D → Prop} (h : wpF r Q noX) : ∃ a e, r = .ok (a, e) ∧ Q a e := by
  cases r with
  | ok p => exact ⟨p.1, p.2, rfl, by with_unfolding_all exact h⟩
  | exc x => with_unfolding_all exact h.elim
  | bad => with_unfolding_all exact h.elim
theorem wp_ok {r : R α} {Q : α → Prop} (h : wp r Q noX) : ∃ a, r = .ok a ∧ Q a := by
  cases r with
  | ok p => exact ⟨p, rfl, by with_unfolding_all exact h⟩
  | exc x => with_unfolding_all exact h.elim
  | bad => with_unfolding_all exact h.elim
theorem wp_eq {r : R α} {a : α} {Q : α → Prop} (e : r = .ok a) (h : Q a) : wp r Q X := by rw [e]; with_unfolding_all exact h
theorem wpE_eq {r : RE α} {a : α} {e' : Ev} (e : r = .ok (a, e')) (h : Q a e') : wpE r Q X := by rw [e]; with_unfolding_all exact h
theorem wpF_eq {r : RF} {a : D} {o : List D} {Q : D → List D → Prop} (e : r = .ok (a, o)) (h : Q a o) : wpF r Q X := by rw [e]; with_unfolding_all exact h
theorem wpS_eq {r : R (Fl × Ev)} {f : Fl} {e' : Ev} {Z : Fl → Ev → Prop} (e : r = .ok (f, e')) (h : Z f e') : wpS r Z X := by rw [e]; with_unfolding_all exact h
theorem wpF_mono {r : RF} {Q Q' : D → List D → Prop} {X' : Xc → Prop} (h : wpF r Q X) (m : ∀ a o, Q a o → Q' a o) (mx : ∀ x, X x → X' x) : wpF r Q' X' := by
  cases r with
  | ok p => with_unfolding_all exact m _ _ h
  | exc x => with_unfolding_all exact mx _ h
  | bad => with_unfolding_all exact h
theorem wpS_mono {r : R (Fl × Ev)} {Z Z' : Fl → Ev → Prop} {X' : Xc → Prop} (h : wpS r Z X) (m : ∀ a o, Z a o → Z' a o) (mx : ∀ x, X x → X' x) : wpS r Z' X' := by
  cases r with
  | ok p => with_unfolding_all exact m _ _ h
  | exc x => with_unfolding_all exact mx _ h
  | bad => with_unfolding_all exact h
theorem wpE_mono {r : RE α} {Q' : α → Ev → Prop} {X' : Xc → Prop} (h : wpE r Q X) (m : ∀ a o, Q a o → Q' a o) (mx : ∀ x, X x → X' x) : wpE r Q' X' := by
  cases r with
  | ok p => with_unfolding_all exact m _ _ h
  | exc x => with_unfolding_all exact mx _ h
  | bad => with_unfolding_all exact h
/-! ### pieces -/
theorem w_ret {a : α} (h : Q a env) : wpE (M.ret a env) Q X := by with_unfolding_all exact h
theorem w_bind {m : M α} {k : α → M β} {Q : β → Ev → Prop} (h : wpE (m env) (fun a e => wpE (k a e) Q X) X) : wpE (M.bind m k env) Q X := by
  unfold M.bind
  cases e : m env with
  | ok p => rw [e] at h; with_unfolding_all exact h
  | exc x => rw [e] at h; with_unfolding_all exact h
  | bad => rw [e] at h; with_unfolding_all exact h
theorem w_lift {r : R α} (h : wp r (fun a => Q a env) X) : wpE (M.lift r env) Q X := by
  unfold M.lift
  cases r with
  | ok p => with_unfolding_all exact h
  | exc x => with_unfolding_all exact h
  | bad => with_unfolding_all exact h
theorem w_rbind {r : R α} {k : α → R β} {Q : β → Prop} (h : wp r (fun a => wp (k a) Q X) X) : wp (r.bind k) Q X := by
  cases r with
  | ok p => with_unfolding_all exact h
  | exc x => with_unfolding_all exact h
  | bad => with_unfolding_all exact h
end
section
variable {Q : D → Ev → Prop} {X : Xc → Prop} {env : Ev}
theorem w_var {i : Nat} {d : D} (e : env[i]? = some (.pu d)) (h : Q d env) : wpE (mVar i env) Q X := by
  unfold mVar; rw [e]; with_unfolding_all exact h
theorem w_frz {i : Nat} {d : D} (e : env[i]? = some (.ow d)) (h : Q d (env.set i (.pu d))) : wpE (mFrz i env) Q X := by
  unfold mFrz; rw [e]; with_unfolding_all exact h
theorem w_m1 {g : D → R D} {f : M D} (h : wpE (f env) (fun a e => wp (g a) (fun d => Q d e) X) X) : wpE (m1 g f env) Q X := by
  refine w_bind (wpE_mono h (fun a e h => w_lift h) fun _ h => h)
theorem w_m2 {g : D → D → R D} {f1 f2 : M D} (h : wpE (f1 env) (fun a e => wpE (f2 e) (fun b e2 => wp (g a b) (fun d => Q d e2) X) X) X) : wpE (m2 g f1 f2 env) Q X :=
  w_bind (wpE_mono h (fun a e h => w_bind (wpE_mono h (fun b e2 h => w_lift h) fun _ h => h)) fun _ h => h)
theorem w_snil {Q : List D → Ev → Prop} (h : Q [] env) : wpE (mSeq [] env) Q X := by with_unfolding_all exact h
theorem w_scons {Q : List D → Ev → Prop} {m : M D} {ms : List (M D)} (h : wpE (m env) (fun d e => wpE (mSeq ms e) (fun ds e2 => Q (d :: ds) e2) X) X) : wpE (mSeq (m :: ms) env) Q X :=
  w_bind (wpE_mono h (fun a e h => w_bind (wpE_mono h (fun _ _ h => w_ret h) fun _ h => h)) fun _ h => h)
theorem w_bi {g : List D → R D} {m : M (List D)} (h : wpE (m env) (fun ds e => wp (g ds) (fun d => Q d e) X) X) : wpE (mBi g m env) Q X :=
  w_bind (wpE_mono h (fun a e h => w_lift h) fun _ h => h)
theorem w_lst {m : M (List D)} (h : wpE (m env) (fun ds e => ds.length ≤ sizeLine ∧ Q (.lst ds) e) X) : wpE (mLst m env) Q X := by
  refine w_bind (wpE_mono h (fun a e h => w_lift ?_) fun _ h => h)
  rw [if_pos h.1]
  with_unfolding_all exact h.2
theorem w_tup {m : M (List D)} (h : wpE (m env) (fun ds e => ds.length ≤ sizeLine ∧ Q (.tup ds) e) X) : wpE (mTup m env) Q X := by
  refine w_bind (wpE_mono h (fun a e h => w_lift ?_) fun _ h => h)
  rw [if_pos h.1]
  with_unfolding_all exact h.2
theorem w_if {t : M Bool} {m n : M D} (h : wpE (t env) (fun b e => (b = true → wpE (m e) Q X) ∧ (b = false → wpE (n e) Q X)) X) : wpE (mIf t m n env) Q X := by
  refine w_bind (wpE_mono h (fun b e h => ?_) fun _ h => h)
  cases b with
  | true => with_unfolding_all exact h.1 rfl
  | false => with_unfolding_all exact h.2 rfl
/-! ### tests -/
def isB (Q : Bool → Ev → Prop) : D → Ev → Prop
  | .bl b, e => Q b e
  | _, _ => False
theorem isB_bl {Q : Bool → Ev → Prop} {b : Bool} (h : Q b env) : isB Q (.bl b) env := by with_unfolding_all exact h
theorem w_B {Q : Bool → Ev → Prop} {f : M D} (h : wpE (f env) (isB Q) X) : wpE (mB f env) Q X := by
  refine w_bind (wpE_mono h (fun d e h => w_lift ?_) fun _ h => h)
  cases d <;> first | with_unfolding_all exact h | with_unfolding_all exact h.elim
theorem w_tru {Q : Bool → Ev → Prop} {f : M D} (h : wpE (f env) (fun d e => wp (truD d) (fun b => Q b e) X) X) : wpE (mTru f env) Q X :=
  w_bind (wpE_mono h (fun d e h => w_lift h) fun _ h => h)
theorem w_notT {Q : Bool → Ev → Prop} {f : M Bool} (h : wpE (f env) (fun b e => Q (!b) e) X) : wpE (mNotT f env) Q X := w_bind (wpE_mono h (fun _ _ h => w_ret h) fun _ h => h)
theorem w_andT {Q : Bool → Ev → Prop} {f g : M Bool} (h : wpE (f env) (fun b e => (b = true → wpE (g e) Q X) ∧ (b = false → Q false e)) X) : wpE (mAndT f g env) Q X := by
  refine w_bind (wpE_mono h (fun b e h => ?_) fun _ h => h)
  cases b with
  | true => with_unfolding_all exact h.1 rfl
  | false => with_unfolding_all exact h.2 rfl
theorem w_orT {Q : Bool → Ev → Prop} {f g : M Bool} (h : wpE (f env) (fun b e => (b = true → Q true e) ∧ (b = false → wpE (g e) Q X)) X) : wpE (mOrT f g env) Q X := by
  refine w_bind (wpE_mono h (fun b e h => ?_) fun _ h => h)
  cases b with
  | true => with_unfolding_all exact h.1 rfl
  | false => with_unfolding_all exact h.2 rfl
/-! ### calls -/
theorem mOwnd_of {i : Nat} {d : D} (e : ownAt env i = some d) : mOwnd i env = .ok ((), env) := by
  unfold ownAt at e
  unfold mOwnd
  cases q : env[i]? with
  | none => rw [q] at e; cases e
  | some s =>
    rw [q] at e
    cases s <;> first | rfl | cases e
theorem w_anil {Q : List Av → Ev → Prop} (h : Q [] env) : wpE (mArgs [] env) Q X := by with_unfolding_all exact h
theorem w_aconsE {Q : List Av → Ev → Prop} {m : M D} {r : List Am} (h : wpE (m env) (fun d e => wpE (mArgs r e) (fun as e2 => Q (.p d :: as) e2) X) X) : wpE (mArgs (.e m :: r) env) Q X :=
  w_bind (wpE_mono h (fun a e h => w_bind (wpE_mono h (fun _ _ h => w_ret h) fun _ h => h)) fun _ h => h)
theorem w_aconsO {Q : List Av → Ev → Prop} {i : Nat} {r : List Am} {d : D} (e : ownAt env i = some d) (h : wpE (mArgs r env) (fun as e2 => Q (.o i :: as) e2) X) : wpE (mArgs (.o i :: r) env) Q X := by
  refine w_bind ?_
  have q := mOwnd_of e
  rw [q]
  refine wpE_o.mpr (w_bind (wpE_mono h (fun _ _ h => w_ret h) fun _ h => h))
theorem w_app {Q : List Av → Ev → Prop} {k : Nat} {m n : M (List Av)} (h : wpE (m env) (fun as e => wpE (n e) (fun bs e2 => bs.length = k ∧ Q (as ++ bs) e2) X) X) : wpE (mApp k m n env) Q X := by
  refine w_bind (wpE_mono h (fun a e h => w_bind (wpE_mono h (fun b e2 h => ?_) fun _ h => h)) fun _ h => h)
  rw [if_pos h.1]
  with_unfolding_all exact h.2
theorem w_call {g : List Sl → RF} {m : M (List Av)} (h : wpE (m env) (fun as e => ∃ args, slOf e as = some args ∧ wpF (g args) (fun d outs => Q d (putO as outs e)) X) X) : wpE (mCall g m env) Q X := by
  refine w_bind (wpE_mono h (fun as e h => ?_) fun _ h => h)
  obtain ⟨args, ea, h⟩ := h
  simp only [ea]
  cases q : g args with
  | ok p => rw [q] at h; with_unfolding_all exact h
  | exc x => rw [q] at h; with_unfolding_all exact h
  | bad => rw [q] at h; with_unfolding_all exact h
/-- by plain arguments alone -/
def pls : List D → List Sl := List.map .pu
theorem slOf_p {e : Ev} : ∀ ds : List D, slOf e (ds.map .p) = some (pls ds)
  | [] => rfl
  | d :: ds => by simp only [List.map, slOf, slOf_p ds, pls, Option.map_some]
theorem w_new {c : Nat} {g : List Sl → RF} {m : M (List Av)} (h : wpE (m env) (fun as e => ∃ args, slOf e as = some args ∧ wpF (g (.ow (.ins c [] []) :: args)) (fun d outs => d = .non ∧ ∃ s r, outs = s :: r ∧ Q s (putO as r e)) X) X) : wpE (mNew c g m env) Q X := by
  refine w_bind (wpE_mono h (fun as e h => ?_) fun _ h => h)
  obtain ⟨args, ea, h⟩ := h
  simp only [ea]
  cases q : g (.ow (.ins c [] []) :: args) with
  | ok p =>
    rw [q] at h
    obtain ⟨d, outs⟩ := p
    obtain ⟨rfl, s, r, rfl, h'⟩ := wpF_o.mp h
    exact wpE_o.mpr h'
  | exc x => rw [q] at h; with_unfolding_all exact h
  | bad => rw [q] at h; with_unfolding_all exact h
/-! ### own lists -/
theorem w_ixO {i : Nat} {f : M D} {xs : List D} (e : ownAt env i = some (.lst xs)) (h : wpE (f env) (fun d e => ∃ k xs r, d = .int k ∧ ownAt e i = some (.lst xs) ∧ atI xs k = some r ∧ Q r e) X) : wpE (mIxO i f env) Q X := by
  refine w_bind ?_
  have q := mOwnd_of e
  rw [q]
  refine wpE_o.mpr (w_bind (wpE_mono h (fun d e h => ?_) fun _ h => h))
  obtain ⟨k, xs, r, rfl, h1, h2, h⟩ := h
  simp only [h1, h2]
  with_unfolding_all exact h
theorem w_mt1 {i : Nat} {g : List D → D → Option (D × List D)} {f : M D} {xs : List D} (e : ownAt env i = some (.lst xs)) (h : wpE (f env) (fun d e => ∃ xs r ys, ownAt e i = some (.lst xs) ∧ g xs d = some (r, ys) ∧ Q r (setAt e i (.lst ys))) X) : wpE (mMt1 i g f env) Q X := by
  refine w_bind ?_
  have q := mOwnd_of e
  rw [q]
  simp only [wpE, e]
  show wpE (M.bind f _ env) Q X
  refine w_bind (wpE_mono h (fun d e h => ?_) fun _ h => h)
  obtain ⟨xs, r, ys, h1, h2, h⟩ := h
  simp only [h1, h2]
  with_unfolding_all exact h
end
/-! ### statements -/
def seqZ (k : Ev → Prop) (Z : Fl → Ev → Prop) : Fl → Ev → Prop
  | .nx, e => k e
  | f, e => Z f e
section
variable {Z : Fl → Ev → Prop} {X : Xc → Prop} {env : Ev}
theorem z_nx {k : Ev → Prop} (h : k env) : seqZ k Z .nx env := by with_unfolding_all exact h
theorem z_rt {k : Ev → Prop} {d : D} (h : Z (.rt d) env) : seqZ k Z (.rt d) env := by with_unfolding_all exact h
theorem w_seq {m n : MS} (h : wpS (m env) (seqZ (fun e => wpS (n e) Z X) Z) X) : wpS (sSeq m n env) Z X := by
  unfold sSeq
  cases e : m env with
  | ok p =>
    rw [e] at h
    obtain ⟨f, e1⟩ := p
    cases f <;> with_unfolding_all exact h
  | exc x => rw [e] at h; with_unfolding_all exact h
  | bad => rw [e] at h; with_unfolding_all exact h
theorem w_end (h : Z .nx env) : wpS ((fun env => .ok (.nx, env) : MS) env) Z X := by with_unfolding_all exact h
theorem w_set {i : Nat} {f : M D} (h : wpE (f env) (fun d e => Z .nx (e.set i (.pu d))) X) : wpS (sSet i f env) Z X := by
  unfold sSet
  cases e : f env with
  | ok p => rw [e] at h; with_unfolding_all exact h
  | exc x => rw [e] at h; with_unfolding_all exact h
  | bad => rw [e] at h; with_unfolding_all exact h
theorem w_setO {i : Nat} {f : M D} (h : wpE (f env) (fun d e => Z .nx (e.set i (.ow d))) X) : wpS (sSetO i f env) Z X := by
  unfold sSetO
  cases e : f env with
  | ok p => rw [e] at h; with_unfolding_all exact h
  | exc x => rw [e] at h; with_unfolding_all exact h
  | bad => rw [e] at h; with_unfolding_all exact h
theorem w_expr {f : M D} (h : wpE (f env) (fun d e => Z .nx e) X) : wpS (sExpr f env) Z X := by
  unfold sExpr
  cases e : f env with
  | ok p => rw [e] at h; with_unfolding_all exact h
  | exc x => rw [e] at h; with_unfolding_all exact h
  | bad => rw [e] at h; with_unfolding_all exact h
theorem w_rets {f : M D} (h : wpE (f env) (fun d e => Z (.rt d) e) X) : wpS (sRet f env) Z X := by
  unfold sRet
  cases e : f env with
  | ok p => rw [e] at h; with_unfolding_all exact h
  | exc x => rw [e] at h; with_unfolding_all exact h
  | bad => rw [e] at h; with_unfolding_all exact h
theorem w_ifs {t : M Bool} {m n : MS} (h : wpE (t env) (fun b e => (b = true → wpS (m e) Z X) ∧ (b = false → wpS (n e) Z X)) X) : wpS (sIf t m n env) Z X := by
  unfold sIf
  cases e : t env with
  | ok p =>
    rw [e] at h
    obtain ⟨b, e1⟩ := p
    cases b with
    | true => with_unfolding_all exact h.1 rfl
    | false => with_unfolding_all exact h.2 rfl
  | exc x => rw [e] at h; with_unfolding_all exact h
  | bad => rw [e] at h; with_unfolding_all exact h
theorem w_asg {t : MG} {f : M D} (h : wpE (f env) (fun d e => wp (t d e) (fun e2 => Z .nx e2) X) X) : wpS (sAsg t f env) Z X := by
  unfold sAsg
  cases e : f env with
  | ok p =>
    rw [e] at h
    obtain ⟨d, e1⟩ := p
    show wpS ((t d e1).bind _) Z X
    cases q : t d e1 with
    | ok e2 => simp only [wpE, q] at h; with_unfolding_all exact h
    | exc x => simp only [wpE, q] at h; with_unfolding_all exact h
    | bad => simp only [wpE, q] at h; with_unfolding_all exact h
  | exc x => rw [e] at h; with_unfolding_all exact h
  | bad => rw [e] at h; with_unfolding_all exact h
theorem w_raise {c : Nat} {fs : List Nat} {m : M (List D)} (h : wpE (m env) (fun ds e => ds.length = fs.length ∧ X ⟨c, fs.reverse, ds.reverse⟩) X) : wpS (sRaise c fs m env) Z X := by
  unfold sRaise
  cases e : m env with
  | ok p =>
    rw [e] at h
    obtain ⟨ds, e1⟩ := p
    show wpS (if ds.length = fs.length then _ else _) Z X
    have h := wpE_o.mp h
    rw [if_pos h.1]
    exact wpS_x.mpr h.2
  | exc x => rw [e] at h; with_unfolding_all exact h
  | bad => rw [e] at h; with_unfolding_all exact h
theorem w_setI {i : Nat} {fi f : M D} (h : wpE (f env) (fun q e => ∃ d0, ownAt e i = some d0 ∧ wpE (fi e) (fun r e2 => ∃ k xs j, r = .int k ∧ ownAt e2 i = some (.lst xs) ∧ ixN xs.length k = some j ∧ Z .nx (setAt e2 i (.lst (xs.set j q)))) X) X) : wpS (sSetI i fi f env) Z X := by
  unfold sSetI
  cases e : f env with
  | ok p =>
    rw [e] at h
    obtain ⟨d, e1⟩ := p
    obtain ⟨d0, o, h⟩ := wpE_o.mp h
    show wpS (((M.bind (mOwnd i) fun _ => fi) e1).bind _) Z X
    have q := mOwnd_of o
    have q2 : (M.bind (mOwnd i) fun _ => fi) e1 = fi e1 := by
      unfold M.bind
      rw [q]
      rfl
    rw [q2]
    cases q3 : fi e1 with
    | ok p2 =>
      rw [q3] at h
      obtain ⟨r, e2⟩ := p2
      obtain ⟨k, xs, j, rfl, h1, h2, h⟩ := wpE_o.mp h
      show wpS (match ownAt e2 i, D.int k with | some (.lst xs), .int k => (match ixN xs.length k with | some j => .ok (.nx, setAt e2 i (.lst (xs.set j d))) | none => .bad) | _, _ => .bad) Z X
      simp only [h1, h2]
      with_unfolding_all exact h
    | exc x => rw [q3] at h; with_unfolding_all exact h
    | bad => rw [q3] at h; with_unfolding_all exact h
  | exc x => rw [e] at h; with_unfolding_all exact h
  | bad => rw [e] at h; with_unfolding_all exact h
/-- a loop by an invariant that may hang on the turn -/
theorem w_loop {t : MG} {m : MS} {I : Nat → Ev → Prop} : ∀ (ds : List D) (k : Nat) (env : Ev), I k env →
    (∀ j d env, ds[j]? = some d → I (k + j) env → wp (t d env) (fun e1 => wpS (m e1) (fun f e => match f with
      | .nx => I (k + j + 1) e
      | .ct => I (k + j + 1) e
      | .bk => Z .nx e
      | .rt r => Z (.rt r) e) X) X) → (∀ e, I (k + ds.length) e → Z .nx e) → wpS (loopD t m ds env) Z X
  | [], k, env, h0, _, hz => wpS_o.mpr (hz env h0)
  | d :: ds, k, env, h0, hs, hz => by
    have h := hs 0 d env rfl h0
    unfold loopD
    cases q : t d env with
    | bad => rw [q] at h; with_unfolding_all exact h.elim
    | exc x => rw [q] at h; with_unfolding_all exact h
    | ok e1 =>
      rw [q] at h
      show wpS ((m e1).bind _) Z X
      cases q2 : m e1 with
      | bad => simp only [wp, q2] at h; with_unfolding_all exact h.elim
      | exc x => simp only [wp, q2] at h; with_unfolding_all exact h
      | ok p =>
        obtain ⟨f, e2⟩ := p
        simp only [wp, q2, wpS] at h
        have rec_ : I (k + 1) e2 → wpS (loopD t m ds e2) Z X := fun h2 => w_loop ds (k + 1) e2 h2 (fun j d env hj hI => by
          have := hs (j + 1) d env (by simpa using hj) (by rw [show k + (j + 1) = k + 1 + j from by omega]; exact hI)
          rw [show k + (j + 1) = k + 1 + j from by omega] at this
          exact this) (fun e he => hz e (by rw [List.length_cons, show k + (ds.length + 1) = k + 1 + ds.length from by omega]; exact he))
        cases f with
        | nx => with_unfolding_all exact rec_ h
        | ct => with_unfolding_all exact rec_ h
        | bk => with_unfolding_all exact h
        | rt r => with_unfolding_all exact h
theorem w_for {mi : M (List D)} {t : MG} {m : MS} (h : wpE (mi env) (fun ds e => wpS (loopD t m ds e) Z X) X) : wpS (sFor mi t m env) Z X := by
  unfold sFor
  cases e : mi env with
  | ok p => rw [e] at h; with_unfolding_all exact h
  | exc x => rw [e] at h; with_unfolding_all exact h
  | bad => rw [e] at h; with_unfolding_all exact h
theorem w_rng {Q : List D → Ev → Prop} {g : List D → R (List D)} {m : M (List D)} (h : wpE (m env) (fun ds e => wp (g ds) (fun d => Q d e) X) X) : wpE (mRng g m env) Q X :=
  w_bind (wpE_mono h (fun a e h => w_lift h) fun _ h => h)
/-- a def -/
theorem w_run {n N : Nat} {o : Bool} {m : MS} {args : List Sl} {Q : D → List D → Prop} (hl : args.length = n) (h : wpS (m (entry 0 args ++ List.replicate (N - args.length) .no)) (fun f e => match f with
    | .rt d => ∃ outs, outsOf 0 args e = some outs ∧ Q d outs
    | .nx => o = false ∧ ∃ outs, outsOf 0 args e = some outs ∧ Q .non outs
    | _ => False) X) : wpF (runB n N o m args) Q X := by
  unfold runB
  rw [if_pos hl]
  cases e : m (entry 0 args ++ List.replicate (N - args.length) .no) with
  | ok p =>
    obtain ⟨f, e1⟩ := p
    rw [e] at h
    cases f with
    | rt d =>
      obtain ⟨outs, q, h⟩ := wpS_o.mp h
      simp only [q]
      with_unfolding_all exact h
    | nx =>
      obtain ⟨rfl, outs, q, h⟩ := wpS_o.mp h
      simp only [q]
      with_unfolding_all exact h
    | bk => with_unfolding_all exact h.elim
    | ct => with_unfolding_all exact h.elim
  | exc x => rw [e] at h; with_unfolding_all exact h
  | bad => rw [e] at h; with_unfolding_all exact h
end
/-! ### integers -/
section
variable {Q : D → Prop} {X : Xc → Prop} {i j : Int} {mt rt : Nat → Option (List Sl → RF)}
theorem i_bin {base : D → D → R D} (h : wp (base (.int i) (.int j)) Q X) : wp (binD mt rt base (.int i) (.int j)) Q X := by with_unfolding_all exact h
theorem i_ord {base : D → D → R D} (h : wp (base (.int i) (.int j)) Q X) : wp (ordD mt base (.int i) (.int j)) Q X := by with_unfolding_all exact h
theorem i_add (h : Q (.int (i + j))) : wp (addD (.int i) (.int j)) Q X := by with_unfolding_all exact h
theorem i_sub (h : Q (.int (i - j))) : wp (subD (.int i) (.int j)) Q X := by with_unfolding_all exact h
theorem i_mul (m : mulOk i j = true) (h : Q (.int (i * j))) : wp (mulD (.int i) (.int j)) Q X := by
  show wp (if mulOk i j then _ else _) Q X
  rw [if_pos m]; with_unfolding_all exact h
theorem i_fdiv (m : divOk j = true) (h : Q (.int (i.fdiv j))) : wp (fdivD (.int i) (.int j)) Q X := by
  show wp (if divOk j then _ else _) Q X
  rw [if_pos m]; with_unfolding_all exact h
theorem i_mod (m : j ≠ 0) (h : Q (.int (i.fmod j))) : wp (modD (.int i) (.int j)) Q X := by
  show wp (if j ≠ 0 then _ else _) Q X
  rw [if_pos m]; with_unfolding_all exact h
theorem i_pow (m : powOk i j = true) (h : Q (.int (i ^ j.toNat))) : wp (powD (.int i) (.int j)) Q X := by
  show wp (if powOk i j then _ else _) Q X
  rw [if_pos m]; with_unfolding_all exact h
theorem i_gt (h : Q (.bl (decide (j < i)))) : wp (gtD (.int i) (.int j)) Q X := by with_unfolding_all exact h
theorem i_ge (h : Q (.bl (decide (j ≤ i)))) : wp (geD (.int i) (.int j)) Q X := by with_unfolding_all exact h
theorem i_lt (h : Q (.bl (decide (i < j)))) : wp (ltD (.int i) (.int j)) Q X := by with_unfolding_all exact h
theorem i_le (h : Q (.bl (decide (i ≤ j)))) : wp (leD (.int i) (.int j)) Q X := by with_unfolding_all exact h
theorem i_int (h : Q (.int i)) : wp (gInt [.int i]) Q X := by with_unfolding_all exact h
theorem i_intb {b : Bool} (h : Q (.int (if b then 1 else 0))) : wp (gInt [.bl b]) Q X := by with_unfolding_all exact h
theorem i_abs (h : Q (.int (if i < 0 then -i else i))) : wp (gAbs [.int i]) Q X := by with_unfolding_all exact h
theorem i_len {xs : List D} (h : Q (.int xs.length)) : wp (gLen [.lst xs]) Q X := by with_unfolding_all exact h
end
end Dl

set_option maxHeartbeats 1000000
/-! DLZ: the pen of the laws' draws. -/
namespace Dl
open PySem PySem.W L2
/-- the pen: cells, how many of them are used up (at most N), what is left of a great one -/
def Pen (N : Int) (p : D) : Prop := ∃ (cs : List Int) (k r : Int), p = .lst [.lst (cs.map .int), .int k, .int r] ∧ 0 ≤ k ∧ k ≤ N ∧ 0 ≤ r
theorem Pen.mono {N M : Int} {p : D} (h : Pen N p) (l : N ≤ M) : Pen M p := by
  obtain ⟨cs, k, r, e, h1, h2, h3⟩ := h
  exact ⟨cs, k, r, e, h1, by omega, h3⟩
theorem mod_bd {a b : Int} (h : 0 < b) : 0 ≤ a.fmod b ∧ a.fmod b < b := ⟨Int.fmod_nonneg_of_pos _ h, Int.fmod_lt_of_pos _ h⟩
theorem fdiv_nn {a b : Int} (h : 0 ≤ a) (h2 : 0 < b) : 0 ≤ a.fdiv b := Int.fdiv_nonneg h (Int.le_of_lt h2)
theorem atI_nn {α : Type} {xs : List α} {i : Int} (h0 : 0 ≤ i) (h1 : i < xs.length) : ∃ c, atI xs i = some c ∧ c ∈ xs := by
  have hi : i.toNat < xs.length := by omega
  refine ⟨xs[i.toNat], ?_, List.getElem_mem _⟩
  unfold atI ixN
  rw [if_pos h0, if_pos h1]
  simp [hi]
theorem atI_ints {cs : List Int} {i : Int} (h0 : 0 ≤ i) (h1 : i < cs.length) : ∃ c, atI (cs.map D.int) i = some (.int c) := by
  obtain ⟨d, e, m⟩ := atI_nn (xs := cs.map D.int) h0 (by simpa using h1)
  obtain ⟨c, _, rfl⟩ := List.mem_map.mp m
  exact ⟨c, e⟩
theorem mulOk_l {i j : Int} (h : -18446744073709551616 < i) (h2 : i < 18446744073709551616) : mulOk i j = true := by
  unfold mulOk
  rw [decide_eq_true h, decide_eq_true h2]
  rfl
theorem powOk_of {i j : Int} (h : -18446744073709551616 < i) (h2 : i < 18446744073709551616) (h3 : 0 ≤ j) (h4 : j ≤ 1000000) : powOk i j = true := by
  simp only [powOk, Bool.and_eq_true, decide_eq_true_eq]
  exact ⟨⟨h3, h4⟩, by omega⟩
theorem divOk_of {n : Int} (h0 : 0 < n) (hn : n < 18446744073709551616) : divOk n = true := by
  unfold divOk
  rw [decide_eq_true (show n ≠ 0 by omega), decide_eq_true (Nat.lt_of_lt_of_le (show n.natAbs < 2 ^ 64 by omega) (Nat.pow_le_pow_right (by decide) (by decide)))]
  rfl
section
variable {Q : D → Prop} {X : Xc → Prop} {i j : Int}
theorem i_modP (m : 0 < j) (h : ∀ r, 0 ≤ r → r < j → Q (.int r)) : wp (modD (.int i) (.int j)) Q X := i_mod (by omega) (h _ (mod_bd m).1 (mod_bd m).2)
/-- a product of small numbers, not below 0 -/
theorem i_mulB {A B : Int} (a0 : 0 ≤ i) (a1 : i ≤ A) (b0 : 0 ≤ j) (b1 : j ≤ B) (a2 : A < 18446744073709551616) (h : ∀ r, 0 ≤ r → r ≤ A * B → Q (.int r)) : wp (mulD (.int i) (.int j)) Q X := i_mul (mulOk_l (by omega) (by omega)) (h _ (Int.mul_nonneg a0 b0) (Int.mul_le_mul a1 b1 b0 (by omega)))
theorem i_fdivP {n : Int} (h0 : 0 < n) (hn : n < 18446744073709551616) (h : ∀ r, (0 ≤ i → 0 ≤ r) → Q (.int r)) : wp (fdivD (.int i) (.int n)) Q X := i_fdiv (divOk_of h0 hn) (h _ fun q => fdiv_nn q h0)
end
theorem isPy_ints (cs : List Int) : isPy 8 (.lst (cs.map D.int)) = true := by
  show (cs.map D.int).all (isPy 7) = true
  rw [List.all_eq_true]
  intro d hd
  obtain ⟨c, _, rfl⟩ := List.mem_map.mp hd
  rfl
theorem eqD_isPy {m : Nat → Option (List Sl → RF)} {k : Nat} {x y : D} (hx : isPy 8 x = true) (hy : isPy 8 y = true) : eqD m (k + 1) x y = .ok (eqP x y) := by
  show eqStep m (eqD m k) x y = _
  unfold eqStep
  rw [hx, hy]
  rfl
theorem insB_py {x : D} {n : Nat} (h : isPy n x = true) : insB x = false := by
  cases x with
  | ins c ns ds => cases n <;> cases h
  | _ => rfl
section
variable {Q : D → Prop} {X : Xc → Prop} {x y : D} {m : Nat → Option (List Sl → RF)}
theorem i_neP (hx : isPy 8 x = true) (hy : isPy 8 y = true) (h : Q (.bl (!eqP x y))) : wp (neV m x y) Q X := by
  unfold neV
  rw [insB_py hy, eqD_isPy (k := 4) hx hy]
  with_unfolding_all exact h
theorem i_eqP (hx : isPy 8 x = true) (hy : isPy 8 y = true) (h : Q (.bl (eqP x y))) : wp (eqV m x y) Q X := by
  unfold eqV
  rw [eqD_isPy (k := 4) hx hy]
  with_unfolding_all exact h
end
/-- the cell that is drawn: xs[i % len(xs)] -/
theorem ix_cell {Q : D → Prop} {X : Xc → Prop} {cs : List Int} {i : Int} (h0 : 0 ≤ i) (h1 : i < cs.length) (h : ∀ c, Q (.int c)) : wp (ixD (.lst (cs.map D.int)) (.int i)) Q X := by
  obtain ⟨c, e⟩ := atI_ints h0 h1
  show wp (R.ofO (atI (cs.map D.int) i)) Q X
  rw [e]
  with_unfolding_all exact h c
/-- one of a list's items -/
theorem ix_mem {Q : D → Prop} {X : Xc → Prop} {xs : List D} {i : Int} (h0 : 0 ≤ i) (h1 : i < xs.length) (h : ∀ d ∈ xs, Q d) : wp (ixD (.lst xs) (.int i)) Q X := by
  obtain ⟨d, e, m⟩ := atI_nn h0 h1
  show wp (R.ofO (atI xs i)) Q X
  rw [e]
  with_unfolding_all exact h d m
theorem law_of {r : RF} (h : wpF r (fun d _ => d = .bl true) noX) : ∃ outs, r = .ok (.bl true, outs) := by
  cases r with
  | ok p =>
    obtain ⟨d, o⟩ := p
    have e : d = .bl true := by with_unfolding_all exact h
    rw [e]
    exact ⟨o, rfl⟩
  | exc x => with_unfolding_all exact h.elim
  | bad => with_unfolding_all exact h.elim
/-! ### lambdas, comprehensions -/
def lamZ (Q : D → Ev → Prop) (env : Ev) : Fl → Ev → Prop
  | .rt d, _ => Q d env
  | .nx, _ => Q .non env
  | _, _ => False
section
variable {Q : D → Ev → Prop} {X : Xc → Prop} {env : Ev}
theorem w_lam {n : Nat} {mH : R D → MS} {mb : M D} (h : wpE (mb (pures env)) (fun d _ => wpS (mH (.ok d) (.fu :: List.replicate (n - 1) .no)) (lamZ Q env) X) (fun x => wpS (mH (.exc x) (.fu :: List.replicate (n - 1) .no)) (lamZ Q env) X)) : wpE (mLam n mH mb env) Q X := by
  have key : ∀ r, wpS (mH r (.fu :: List.replicate (n - 1) .no)) (lamZ Q env) X → wpE (match mH r (.fu :: List.replicate (n - 1) .no) with
      | .ok (.rt d, _) => .ok (d, env)
      | .ok (.nx, _) => .ok (.non, env)
      | .exc x => .exc x
      | _ => .bad) Q X := fun r h => by
    cases q : mH r (.fu :: List.replicate (n - 1) .no) with
    | ok p =>
      obtain ⟨f, e⟩ := p
      rw [q] at h
      cases f <;> first | with_unfolding_all exact h | with_unfolding_all exact h.elim
    | exc x => rw [q] at h; with_unfolding_all exact h
    | bad => rw [q] at h; with_unfolding_all exact h.elim
  unfold mLam
  cases q : mb (pures env) with
  | ok p => rw [q] at h; exact key _ (wpE_o.mp h)
  | exc x => rw [q] at h; exact key _ (wpE_x.mp h)
  | bad => rw [q] at h; with_unfolding_all exact h.elim
/-- the slots told anew -/
theorem w_norm {m : MS} {e e' : Ev} {Z : Fl → Ev → Prop} (q : e = e') (h : wpS (m e') Z X) : wpS (m e) Z X := by rw [q]; with_unfolding_all exact h
theorem l_rt {d : D} {e : Ev} (h : Q d env) : lamZ Q env (.rt d) e := by with_unfolding_all exact h
theorem l_nx {e : Ev} (h : Q .non env) : lamZ Q env .nx e := by with_unfolding_all exact h
@[irreducible] def wpO (r : Option (List D × Ev)) (Q : List D → Ev → Prop) : Prop := match r with
  | some (a, e) => Q a e
  | none => False
theorem w_lc {vs : List Nat} {mi : M (List D)} {t : MG} {tt : M Bool} {te : M D} (h : wpE (mi env) (fun ds e => wpO (lcD vs t tt te ds [] e) (fun ys e2 => Q (.lst ys) (backE e e2 vs))) X) : wpE (mLc vs mi t tt te env) Q X := by
  unfold mLc
  cases q : mi env with
  | ok p =>
    obtain ⟨ds, e⟩ := p
    rw [q] at h
    show wpE (match lcD vs t tt te ds [] e with | some r => _ | none => _) Q X
    cases q2 : lcD vs t tt te ds [] e with
    | none => simp only [wpE, q2] at h; with_unfolding_all exact h.elim
    | some p => simp only [wpE, q2] at h; with_unfolding_all exact h
  | exc x => rw [q] at h; with_unfolding_all exact h
  | bad => rw [q] at h; with_unfolding_all exact h.elim
theorem lc_nil {vs : List Nat} {t : MG} {tt : M Bool} {te : M D} {acc : List D} {Q : List D → Ev → Prop} (h : Q acc env) : wpO (lcD vs t tt te [] acc env) Q := by with_unfolding_all exact h
theorem lc_cons {vs : List Nat} {t : MG} {tt : M Bool} {te : M D} {d : D} {ds acc : List D} {Q : List D → Ev → Prop} (h : wp (t d (wipeE env vs)) (fun e1 => wpE (tt e1) (fun b e2 => (b = true → wpE (te e2) (fun y e3 => acc.length < sizeLine ∧ wpO (lcD vs t tt te ds (acc ++ [y]) e3) Q) noX) ∧ (b = false → wpO (lcD vs t tt te ds acc e2) Q)) noX) noX) : wpO (lcD vs t tt te (d :: ds) acc env) Q := by
  unfold lcD
  obtain ⟨e1, q1, h⟩ := wp_ok h
  obtain ⟨b, e2, q2, h⟩ := wpE_ok h
  simp only [q1, q2]
  cases b with
  | false => with_unfolding_all exact h.2 rfl
  | true =>
    obtain ⟨y, e3, q3, h1, h⟩ := wpE_ok (h.1 rfl)
    simp only [q3, if_pos h1]
    with_unfolding_all exact h
theorem w_dct0 (h : Q (.dct [] []) env) : wpE (mDct0 env) Q X := by with_unfolding_all exact h
theorem szl {a b : Nat} (h : Nat.ble a b = true) : a ≤ b := Nat.le_of_ble_eq_true h
theorem szt {a b : Nat} (h : Nat.blt a b = true) : a < b := Nat.le_of_ble_eq_true h
theorem w_meth {mt : Nat → Option (List Sl → RF)} {fo : M D} {m : M (List Av)} (h : wpE (fo env) (fun d e => ∃ c ns ds g, d = .ins c ns ds ∧ mt c = some g ∧ wpE (m e) (fun as e2 => ∃ args, slOf e2 as = some args ∧ wpF (g (.pu d :: args)) (fun r outs => Q r (putO as outs e2)) X) X) X) : wpE (mMeth mt fo m env) Q X := by
  refine w_bind (wpE_mono h (fun d e h => ?_) fun _ h => h)
  obtain ⟨c, ns, ds, g, rfl, q, h⟩ := h
  simp only [q]
  refine w_bind (wpE_mono h (fun as e2 h => ?_) fun _ h => h)
  obtain ⟨args, ea, h⟩ := h
  simp only [ea]
  cases q2 : g (.pu (.ins c ns ds) :: args) with
  | ok p => rw [q2] at h; with_unfolding_all exact h
  | exc x => rw [q2] at h; with_unfolding_all exact h
  | bad => rw [q2] at h; with_unfolding_all exact h
/-- the call comes to an exception -/
theorem wpF_exc {r : RF} {x : Xc} {Q : D → List D → Prop} (e : r = .exc x) (h : X x) : wpF r Q X := by rw [e]; with_unfolding_all exact h
theorem wp_exc {α : Type} {r : R α} {x : Xc} {Q : α → Prop} (e : r = .exc x) (h : X x) : wp r Q X := by rw [e]; with_unfolding_all exact h
end
section
variable {Q : D → Ev → Prop} {X : Xc → Prop} {env : Ev}
theorem w_par2 {i j : Nat} {m : M (List D)} {Z : Fl → Ev → Prop} (h : wpE (m env) (fun ds e => ∃ u v, ds = [u, v] ∧ Z .nx ((e.set i (.pu u)).set j (.pu v))) X) : wpS (sPar2 i j m env) Z X := by
  unfold sPar2
  cases e : m env with
  | ok p =>
    rw [e] at h
    obtain ⟨ds, e1⟩ := p
    obtain ⟨u, v, e2, h⟩ := wpE_o.mp h
    have e2 : ds = [u, v] := e2
    subst e2
    exact wpS_o.mpr h
  | exc x => rw [e] at h; with_unfolding_all exact h
  | bad => rw [e] at h; with_unfolding_all exact h
theorem i_neg {i : Int} {Q : D → Prop} (h : Q (.int (-i))) : wp (negD (.int i)) Q X := wp_o.mpr h
theorem w_andV {f g : M D} (h : wpE (f env) (fun d e => wp (truD d) (fun b => (b = true → wpE (g e) Q X) ∧ (b = false → Q d e)) noX) X) : wpE (mAndV f g env) Q X := by
  unfold mAndV
  refine w_bind (wpE_mono h (fun d e h => ?_) fun _ h => h)
  obtain ⟨b, q, h⟩ := wp_ok h
  show wpE (match truD d with | .ok true => g e | .ok false => .ok (d, e) | _ => .bad) Q X
  rw [q]
  cases b with
  | true => exact h.1 rfl
  | false => exact wpE_o.mpr (h.2 rfl)
theorem w_vfP {i : Nat} {d : D} (e : env[i]? = some (.pu d)) (h : Q d env) : wpE (mVF i env) Q X := by
  unfold mVF; rw [e]; exact wpE_o.mpr h
theorem w_vfO {i : Nat} {d : D} (e : env[i]? = some (.ow d)) (h : Q d (env.set i (.pu d))) : wpE (mVF i env) Q X := by
  unfold mVF; rw [e]; exact wpE_o.mpr h
theorem w_cm {ci : Nat} {g : List Sl → RF} {m : M (List Av)} (h : wpE (mCall (fun as => g (.pu (.fn ci) :: as)) m env) Q X) : wpE (mCm ci g m env) Q X := h
end
/-! ### a loop turn by turn -/
def lpZ (k : Ev → Prop) (Z : Fl → Ev → Prop) : Fl → Ev → Prop
  | .nx, e => k e
  | .ct, e => k e
  | .bk, e => Z .nx e
  | .rt r, e => Z (.rt r) e
section
variable {X : Xc → Prop} {env : Ev} {Z : Fl → Ev → Prop}
theorem lp_nx {k : Ev → Prop} (h : k env) : lpZ k Z .nx env := h
theorem lp_ct {k : Ev → Prop} (h : k env) : lpZ k Z .ct env := h
theorem lp_bk {k : Ev → Prop} (h : Z .nx env) : lpZ k Z .bk env := h
theorem lp_rt {k : Ev → Prop} {d : D} (h : Z (.rt d) env) : lpZ k Z (.rt d) env := h
theorem w_lnil {t : MG} {m : MS} (h : Z .nx env) : wpS (loopD t m [] env) Z X := wpS_o.mpr h
theorem w_lcons {t : MG} {m : MS} {d : D} {ds : List D} (h : wp (t d env) (fun e1 => wpS (m e1) (lpZ (fun e => wpS (loopD t m ds e) Z X) Z) X) X) : wpS (loopD t m (d :: ds) env) Z X := by
  unfold loopD
  cases q : t d env with
  | bad => rw [q] at h; exact (wp_b h).elim
  | exc x => rw [q] at h; exact wpS_x.mpr (wp_x.mp h)
  | ok e1 =>
    rw [q] at h
    have h := wp_o.mp h
    show wpS ((m e1).bind _) Z X
    cases q2 : m e1 with
    | bad => rw [q2] at h; exact (wpS_b h).elim
    | exc x => rw [q2] at h; exact wpS_x.mpr (wpS_x.mp h)
    | ok p =>
      obtain ⟨f, e2⟩ := p
      rw [q2] at h
      have h := wpS_o.mp h
      cases f with
      | nx => exact h
      | ct => exact h
      | bk => exact wpS_o.mpr h
      | rt r => exact wpS_o.mpr h
theorem t_n {i : Nat} {d : D} {Q : Ev → Prop} (h : Q (env.set i (.pu d))) : wp (tgN i d env) Q X := wp_o.mpr h
theorem w_M1 {g : List Nat → D → R D} {f1 f2 : M D} {Q : D → Ev → Prop} (h : wpE (f1 env) (fun a e => ∃ s, a = .str s ∧ wpE (f2 e) (fun b e2 => wp (g s b) (fun d => Q d e2) X) X) X) : wpE (mM1 g f1 f2 env) Q X := by
  refine w_bind (wpE_mono h (fun a e h => ?_) fun _ h => h)
  obtain ⟨s, rfl, h⟩ := h
  exact w_bind (wpE_mono h (fun b e2 h => w_lift h) fun _ h => h)
theorem w_it {f : M D} {Q : List D → Ev → Prop} (h : wpE (f env) (fun d e => wp (itemsOf d) (fun ds => Q ds e) X) X) : wpE (mIt f env) Q X :=
  w_bind (wpE_mono h (fun a e h => w_lift h) fun _ h => h)
theorem w_newL {i ci c : Nat} {g : List Sl → RF} {m : M (List Av)} {Q : D → Ev → Prop} (e : env[i]? = some (.pu (.fn ci))) (h : wpE (mNew c g m env) Q X) : wpE (mNewL i ci c g m env) Q X := by
  unfold mNewL
  rw [e]
  show wpE (if ci = ci then _ else _) Q X
  rw [if_pos rfl]
  exact h
theorem w_chain {g1 g2 : D → D → R D} {a b c : M D} {Q : D → Ev → Prop} (h : wpE (mChain g1 g2 a b c env) Q X) : wpE (mChain g1 g2 a b c env) Q X := h
end
theorem ix_0 {d : D} {ds : List D} : ixD (.lst (d :: ds)) (.int 0) = .ok d := by
  show R.ofO (atI (d :: ds) 0) = _
  unfold atI ixN
  rw [if_pos (by decide), if_pos (by simp only [List.length_cons]; omega)]
  rfl
theorem ix_1 {d0 d : D} {ds : List D} : ixD (.lst (d0 :: d :: ds)) (.int 1) = .ok d := by
  show R.ofO (atI (d0 :: d :: ds) 1) = _
  unfold atI ixN
  rw [if_pos (by decide), if_pos (by simp only [List.length_cons]; omega)]
  rfl
/-- a statement by itself, whatever comes behind it -/
theorem w_stm {env env' : Ev} {m : MS} {Z : Fl → Ev → Prop} {X : Xc → Prop} (h : wpS (m env) (fun f e => f = .nx ∧ e = env') noX) (k : Z .nx env') : wpS (m env) Z X :=
  wpS_mono h (fun f e ⟨h1, h2⟩ => by subst h1 h2; exact k) fun _ h => h.elim
/-- some statements by themselves: what is told of the slots behind them -/
abbrev sEnd : MS := fun env => .ok (.nx, env)
theorem cut_step {A m n : MS} {env : Ev} {P : Ev → Prop} {Z : Fl → Ev → Prop} {X : Xc → Prop} (h : wpS (sSeq A m env) (fun f e => f = .nx ∧ P e) noX) (k : ∀ e, wpS (m e) (fun f e => f = .nx ∧ P e) noX → wpS (n e) Z X) : wpS (sSeq A n env) Z X := by
  unfold sSeq at h ⊢
  cases a : A env with
  | ok p =>
    obtain ⟨f, e1⟩ := p
    rw [a] at h
    cases f with
    | nx => exact k e1 h
    | rt d => exact absurd (wpS_o.mp h).1 (by simp)
    | bk => exact absurd (wpS_o.mp h).1 (by simp)
    | ct => exact absurd (wpS_o.mp h).1 (by simp)
  | exc x => rw [a] at h; exact (wpS_x.mp h).elim
  | bad => rw [a] at h; exact (wpS_b h).elim
theorem w_cut1 {A n : MS} {env : Ev} {P : Ev → Prop} {Z : Fl → Ev → Prop} {X : Xc → Prop} (h : wpS (sSeq A sEnd env) (fun f e => f = .nx ∧ P e) noX) (k : ∀ e, P e → wpS (n e) Z X) : wpS (sSeq A n env) Z X := cut_step h fun e h => k e (wpS_o.mp h).2
theorem w_cut2 {A B n : MS} {env : Ev} {P : Ev → Prop} {Z : Fl → Ev → Prop} {X : Xc → Prop} (h : wpS (sSeq A (sSeq B sEnd) env) (fun f e => f = .nx ∧ P e) noX) (k : ∀ e, P e → wpS (n e) Z X) : wpS (sSeq A (sSeq B n) env) Z X := cut_step h fun e h => w_cut1 h k
theorem w_cut3 {A B C n : MS} {env : Ev} {P : Ev → Prop} {Z : Fl → Ev → Prop} {X : Xc → Prop} (h : wpS (sSeq A (sSeq B (sSeq C sEnd)) env) (fun f e => f = .nx ∧ P e) noX) (k : ∀ e, P e → wpS (n e) Z X) : wpS (sSeq A (sSeq B (sSeq C n)) env) Z X := cut_step h fun e h => w_cut2 h k
end Dl

set_option maxHeartbeats 1000000
/-! DNA: more rules for plain laws: comprehensions by functions, texts, words, letters, in. -/
namespace Dl
open PySem PySem.W L2
/-- a comprehension whose test and item are functions of the thing -/
theorem lc_map {vs : List Nat} {t : MG} {tt : M Bool} {te : M D} {I : Ev → Prop} {p : D → Bool} {f : D → D} {Q : List D → Ev → Prop} : ∀ (ds acc : List D) (env : Ev), I env →
    (∀ d ∈ ds, ∀ env, I env → wp (t d (wipeE env vs)) (fun e1 => wpE (tt e1) (fun b e2 => (b = true → p d = true ∧ wpE (te e2) (fun y e3 => y = f d ∧ I e3) noX) ∧ (b = false → p d = false ∧ I e2)) noX) noX) →
    acc.length + ds.length ≤ sizeLine → (∀ e, I e → Q (acc ++ (ds.filter p).map f) e) → wpO (lcD vs t tt te ds acc env) Q
  | [], acc, env, h0, _, _, hq => lc_nil (by simpa using hq env h0)
  | d :: ds, acc, env, h0, hs, hl, hq => by
    have hl' : acc.length + (ds.length + 1) ≤ sizeLine := hl
    obtain ⟨e1, q1, h⟩ := wp_ok (hs d (by simp) env h0)
    obtain ⟨b, e2, q2, h⟩ := wpE_ok h
    refine lc_cons (wp_eq q1 (wpE_eq q2 ⟨fun hb => ?_, fun hb => ?_⟩))
    · obtain ⟨hp, h⟩ := h.1 hb
      obtain ⟨y, e3, q3, rfl, h3⟩ := wpE_ok h
      refine wpE_eq q3 ⟨by omega, lc_map ds _ e3 h3 (fun d hd => hs d (List.mem_cons_of_mem _ hd)) (by rw [List.length_append]; simp only [List.length_cons, List.length_nil]; omega) fun e he => ?_⟩
      have := hq e he
      rw [List.filter_cons_of_pos hp, List.map_cons] at this
      rw [List.append_assoc]
      exact this
    · obtain ⟨hp, h⟩ := h.2 hb
      refine lc_map ds _ e2 h (fun d hd => hs d (List.mem_cons_of_mem _ hd)) (by omega) fun e he => ?_
      have := hq e he
      rw [List.filter_cons_of_neg (by rw [hp]; decide)] at this
      exact this
/-! ### letters -/
def isLow (c : Nat) : Bool := decide (97 ≤ c) && decide (c ≤ 122)
def alph : List Nat := [97, 98, 99, 100, 101, 102, 103, 104, 105, 106, 107, 108, 109, 110, 111, 112, 113, 114, 115, 116, 117, 118, 119, 120, 121, 122]
theorem alph_low (c : Nat) : alph.contains c = isLow c := by
  have h : alph.contains c = true ↔ isLow c = true := by
    simp only [alph, isLow, List.contains_cons, List.contains_nil, Bool.or_eq_true, beq_iff_eq, Bool.false_eq_true, or_false, Bool.and_eq_true, decide_eq_true_eq]
    omega
  cases h1 : alph.contains c <;> cases h2 : isLow c <;> simp_all
theorem in_alph (c : Nat) : inV noT noT (.str [c]) (.str alph) = .ok (.bl (isLow c)) := by
  show R.ok (D.bl (alph.contains c)) = _
  rw [alph_low]
theorem notin_alph (c : Nat) : notInV noT noT (.str [c]) (.str alph) = .ok (.bl (!isLow c)) := by
  unfold notInV
  rw [in_alph]
  rfl
/-- a text of letters -/
def isTx (s : List Nat) : Bool := decide (s.length ≤ 2900) && s.all isLow
def isWd (s : List Nat) : Bool := s.all isLow && (decide (1 ≤ s.length) && decide (s.length ≤ 4))
theorem bls_map : ∀ bs : List Bool, bls (bs.map D.bl) = some bs
  | [] => rfl
  | b :: bs => by simp [bls, bls_map bs]
theorem txts_map : ∀ ss : List (List Nat), txts (ss.map D.str) = some ss
  | [] => rfl
  | b :: bs => by simp [txts, txts_map bs]
theorem strsD_map : ∀ ss : List (List Nat), strsD (ss.map D.str) = some ss
  | [] => rfl
  | b :: bs => by simp [strsD, strsD_map bs]
theorem intsD_map : ∀ ns : List Int, intsD (ns.map D.int) = some ns
  | [] => rfl
  | b :: bs => by simp [intsD, intsD_map bs]
theorem join_lst {s : List Nat} {ss : List (List Nat)} (h : sumLen ss + ss.length * s.length ≤ sizeLine) : gJoin s (.lst (ss.map D.str)) = .ok (.str (TL.joinL s ss)) := by
  show (match txts (ss.map D.str) with | some ss => if sumLen ss + ss.length * s.length ≤ sizeLine then R.ok (D.str (TL.joinL s ss)) else .bad | none => .bad) = _
  rw [txts_map]
  exact if_pos h
theorem join_tup {s : List Nat} {ss : List (List Nat)} (h : sumLen ss + ss.length * s.length ≤ sizeLine) : gJoin s (.tup (ss.map D.str)) = .ok (.str (TL.joinL s ss)) := by
  show (match txts (ss.map D.str) with | some ss => if sumLen ss + ss.length * s.length ≤ sizeLine then R.ok (D.str (TL.joinL s ss)) else .bad | none => .bad) = _
  rw [txts_map]
  exact if_pos h
theorem joinL_nil : ∀ ss : List (List Nat), TL.joinL [] ss = ss.flatten
  | [] => rfl
  | [x] => by simp [TL.joinL]
  | x :: y :: r => by
    have := joinL_nil (y :: r)
    simp only [TL.joinL, List.nil_append, List.flatten_cons] at this ⊢
    rw [this]
theorem len_joinL (s : List Nat) : ∀ ss : List (List Nat), (TL.joinL s ss).length ≤ sumLen ss + ss.length * s.length
  | [] => Nat.zero_le _
  | [x] => by simp [TL.joinL, sumLen]
  | x :: y :: r => by
    have := len_joinL s (y :: r)
    have e1 : sumLen (x :: y :: r) = x.length + sumLen (y :: r) := by simp [sumLen]
    have e2 : (x :: y :: r).length * s.length = s.length + (y :: r).length * s.length := by simp only [List.length_cons, Nat.succ_mul]; omega
    simp only [TL.joinL, List.length_append]
    rw [e1, e2]
    omega
theorem sumLen_le {n : Nat} : ∀ {ss : List (List Nat)}, (∀ x ∈ ss, x.length ≤ n) → sumLen ss ≤ ss.length * n
  | [], _ => by simp [sumLen]
  | x :: ss, h => by
    have h1 := h x (by simp)
    have h2 := sumLen_le (ss := ss) fun y hy => h y (List.mem_cons_of_mem _ hy)
    have e1 : sumLen (x :: ss) = x.length + sumLen ss := by simp [sumLen]
    rw [e1, List.length_cons, Nat.succ_mul]
    omega
theorem flat_sum : ∀ ss : List (List Nat), ss.flatten.length = sumLen ss
  | [] => rfl
  | x :: ss => by simp [sumLen, List.flatten_cons, flat_sum ss]
/-! ### unlike letters -/
def lets (s : List Nat) : List (List Nat) := onceL (s.map fun c => [c])
theorem addL_one {n : Nat} {xs : List (List Nat)} {k : List Nat} (h : ∀ x ∈ xs, x.length = n) (hk : k.length = n) : ∀ x ∈ addL xs k, x.length = n := by
  unfold addL
  split
  · exact h
  · intro x hx
    rcases List.mem_cons.mp hx with rfl | hx
    · exact hk
    · exact h x hx
theorem fold_one {n : Nat} : ∀ (ys xs : List (List Nat)), (∀ x ∈ xs, x.length = n) → (∀ y ∈ ys, y.length = n) → ∀ x ∈ ys.foldl addL xs, x.length = n
  | [], xs, h, _ => h
  | y :: ys, xs, h, h2 => fold_one ys (addL xs y) (addL_one h (h2 y (by simp))) fun z hz => h2 z (List.mem_cons_of_mem _ hz)
theorem lets_one (s : List Nat) : ∀ x ∈ lets s, x.length = 1 := fold_one _ [] (by simp) (by simp)
theorem addL_le (xs : List (List Nat)) (k : List Nat) : (addL xs k).length ≤ xs.length + 1 := by
  unfold addL; split <;> simp
theorem fold_le : ∀ (ys xs : List (List Nat)), (ys.foldl addL xs).length ≤ xs.length + ys.length
  | [], xs => by simp
  | y :: ys, xs => by
    have := fold_le ys (addL xs y)
    have := addL_le xs y
    simp only [List.foldl_cons, List.length_cons]
    omega
theorem lets_le (s : List Nat) : (lets s).length ≤ s.length := by
  have := fold_le (s.map fun c => [c]) []
  unfold lets onceL
  simpa using this
theorem sumLen_one : ∀ {ss : List (List Nat)}, (∀ x ∈ ss, x.length = 1) → sumLen ss = ss.length
  | [], _ => rfl
  | x :: ss, h => by
    have h1 := h x (by simp)
    have h2 := sumLen_one (ss := ss) fun y hy => h y (List.mem_cons_of_mem _ hy)
    have e1 : sumLen (x :: ss) = x.length + sumLen ss := by simp [sumLen]
    rw [e1, h1, h2, List.length_cons]; omega
/-- the unlike letters of a text, ascending -/
def letT (s : List Nat) : List Nat := TL.joinL [] (sortL (lets s))
theorem letT_len (s : List Nat) : (letT s).length = (lets s).length := by
  unfold letT
  rw [joinL_nil, flat_sum, sumLen_one fun x hx => lets_one s x ((sortL_perm _).mem_iff.mp hx), (sortL_perm _).length_eq]
/-! ### unlike numbers -/
theorem dedup_ge (ys : List Int) : ∀ xs : List Int, xs.length ≤ (ys.foldl PyProof.Rows.step_dedup xs).length := by
  induction ys with
  | nil => simp
  | cons y ys ih =>
    intro xs
    have := ih (PyProof.Rows.step_dedup xs y)
    have := PyProof.Rows.step_length xs y
    simp only [List.foldl_cons]
    split at this <;> omega
theorem once_one : ∀ (ns : List Int) (n : Int), decide (1 < (ns.foldl PyProof.Rows.step_dedup [n]).length) = ns.any (· != n)
  | [], n => rfl
  | m :: ns, n => by
    by_cases h : m = n
    · subst h
      have : PyProof.Rows.step_dedup [m] m = [m] := by
        unfold PyProof.Rows.step_dedup
        simp
      simp only [List.foldl_cons, this, List.any_cons, bne_self_eq_false, Bool.false_or]
      exact once_one ns m
    · have e := PyProof.Rows.step_length [n] m
      rw [if_neg (by simp [Ne.symm h])] at e
      have := dedup_ge ns (PyProof.Rows.step_dedup [n] m)
      have k : 1 < ((m :: ns).foldl PyProof.Rows.step_dedup [n]).length := by
        simp only [List.foldl_cons]
        simp only [List.length_cons, List.length_nil] at e
        omega
      rw [decide_eq_true k, List.any_cons, bne_iff_ne.mpr h]
      rfl
theorem onceN_cons (n : Int) (ns : List Int) : decide (1 < onceN (n :: ns)) = ns.any (· != n) := by
  unfold onceN
  have : PyProof.Rows.step_dedup [] n = [n] := by
    unfold PyProof.Rows.step_dedup
    simp
  rw [List.foldl_cons, this]
  exact once_one ns n
/-! ### in -/
theorem eqI_py {f : D → D → R Bool} {x y : D} (hx : isPy 8 x = true) (hy : isPy 8 y = true) : eqI f x y = f x y := by
  unfold eqI
  rw [hx, hy]
  rfl
theorem inF_py {m : Nat → Option (List Sl → RF)} {k : Nat} {x : D} (hx : isPy 8 x = true) : ∀ {ys : List D}, ys.all (isPy 8) = true → inF (eqI (eqD m (k + 1))) x ys = .ok (ys.any fun y => eqP y x)
  | [], _ => rfl
  | y :: ys, h => by
    simp only [List.all_cons, Bool.and_eq_true] at h
    unfold inF
    rw [eqI_py h.1 hx, eqD_isPy h.1 hx, List.any_cons, inF_py hx h.2]
    cases eqP y x <;> rfl
theorem in_lst {cm m : Nat → Option (List Sl → RF)} {x : D} {ys : List D} (hx : isPy 8 x = true) (hy : ys.all (isPy 8) = true) : inV cm m x (.lst ys) = .ok (.bl (ys.any fun y => eqP y x)) := by
  show (match inF (eqI (eqD m 4)) x ys with | .ok b => R.ok (D.bl b) | _ => .bad) = _
  rw [inF_py hx hy]
theorem in_tup {cm m : Nat → Option (List Sl → RF)} {x : D} {ys : List D} (hx : isPy 8 x = true) (hy : ys.all (isPy 8) = true) : inV cm m x (.tup ys) = .ok (.bl (ys.any fun y => eqP y x)) := by
  show (match inF (eqI (eqD m 4)) x ys with | .ok b => R.ok (D.bl b) | _ => .bad) = _
  rw [inF_py hx hy]
theorem py_strs (ss : List (List Nat)) : (ss.map D.str).all (isPy 8) = true := by
  rw [List.all_eq_true]
  intro d hd
  obtain ⟨c, _, rfl⟩ := List.mem_map.mp hd
  rfl
theorem any_strs (w : List Nat) : ∀ ss : List (List Nat), ((ss.map D.str).any fun y => eqP y (.str w)) = ss.contains w
  | [] => rfl
  | s :: ss => by
    rw [List.map_cons, List.any_cons, any_strs w ss, List.contains_cons]
    show ((s == w) || _) = _
    rw [Bool.beq_comm]
/-! ### order -/
theorem insL_lt {a : List Nat} {l : List (List Nat)} (h : ∀ b ∈ l, a < b) : insL a l = a :: l := by
  cases l with
  | nil => rfl
  | cons b l =>
    have hb := h b (by simp)
    unfold insL
    rw [if_neg (fun z => List.lt_irrefl a (List.lt_trans hb z))]
theorem sortL_asc : ∀ {l : List (List Nat)}, l.Pairwise (· < ·) → sortL l = l
  | [], _ => rfl
  | a :: l, h => by
    rw [List.pairwise_cons] at h
    unfold sortL
    rw [sortL_asc h.2, insL_lt h.1]
/-! ### enumerate -/
theorem enumD_get {xs : List D} {j : Nat} {d : D} (h : (enumD xs)[j]? = some d) : ∃ x, xs[j]? = some x ∧ d = .tup [.int j, x] := by
  unfold enumD at h
  rw [List.getElem?_zipWith] at h
  cases h1 : xs[j]? with
  | none => rw [h1] at h; cases h2 : (List.range xs.length)[j]? <;> rw [h2] at h <;> cases h
  | some x =>
    have hj := (List.getElem?_eq_some_iff.mp h1).1
    rw [h1, List.getElem?_range hj] at h
    cases h
    exact ⟨x, rfl, rfl⟩
theorem enumD_len (xs : List D) : (enumD xs).length = xs.length := by unfold enumD; simp
/-- name[:k] -/
theorem cut_to {α : Type} (xs : List α) (k : Nat) : cutL xs none (some k) = xs.take k := by
  unfold cutL HT.sIx
  have : ¬ ((k : Int) < 0) := by omega
  simp [this]
/-! ### chains, looks at a name's own list -/
section
variable {Q : D → Ev → Prop} {X : Xc → Prop} {env : Ev}
theorem w_chn {g g' : D → D → R D} {f1 f2 f3 : M D} (h : wpE (f1 env) (fun x e => wpE (f2 e) (fun y e2 => wp (g x y) (fun k => ∃ b, k = .bl b ∧ (b = true → wpE (f3 e2) (fun z e3 => wp (g' y z) (fun d => Q d e3) X) X) ∧ (b = false → Q (.bl false) e2)) X) X) X) : wpE (mChain g g' f1 f2 f3 env) Q X := by
  refine w_bind (wpE_mono h (fun x e h => w_bind (wpE_mono h (fun y e2 h => w_bind (w_lift ?_)) fun _ h => h)) fun _ h => h)
  cases q : g x y with
  | ok k =>
    rw [q] at h
    obtain ⟨b, rfl, h1, h2⟩ := wp_o.mp h
    refine wp_o.mpr ?_
    cases b with
    | true => exact w_bind (wpE_mono (h1 rfl) (fun _ _ h => w_lift h) fun _ h => h)
    | false => exact w_ret (h2 rfl)
  | exc x => rw [q] at h; exact wp_x.mpr (wp_x.mp h)
  | bad => rw [q] at h; exact (wp_b h).elim
theorem w_sl {g : D → Option Int → Option Int → R D} {f : M D} {l h : M (Option Int)} (q : wpE (f env) (fun d e => wpE (l e) (fun lo e2 => wpE (h e2) (fun hi e3 => wp (g d lo hi) (fun r => Q r e3) X) X) X) X) : wpE (mSl g f l h env) Q X :=
  w_bind (wpE_mono q (fun d e q => w_bind (wpE_mono q (fun lo e2 q => w_bind (wpE_mono q (fun hi e3 q => w_lift q) fun _ h => h)) fun _ h => h)) fun _ h => h)
theorem w_nop {Q : Option Int → Ev → Prop} (q : Q none env) : wpE (mNoP env) Q X := wpE_o.mpr q
theorem w_part {Q : Option Int → Ev → Prop} {f : M D} (q : wpE (f env) (fun d e => ∃ i, d = .int i ∧ Q (some i) e) X) : wpE (mPart f env) Q X := by
  refine w_bind (wpE_mono q (fun d e q => ?_) fun _ h => h)
  obtain ⟨i, rfl, q⟩ := q
  exact w_lift (wp_o.mpr q)
theorem w_fldO {i f c : Nat} {ns : List Nat} {ds : List D} {d : D} (e : ownAt env i = some (.ins c ns ds)) (l : lookN f ns ds = some d) (h : Q d env) : wpE (mFldO i f env) Q X := by
  unfold mFldO
  simp only [e, l]
  exact wpE_o.mpr h
theorem w_setF {i f : Nat} {fo : Nat → Bool} {m : M D} {Z : Fl → Ev → Prop} (h : wpE (m env) (fun p e => ∃ c ns ds, ownAt e i = some (.ins c ns ds) ∧ (fo c = true ∧ ns.length < 1000) ∧ Z .nx (setAt e i (.ins c (putN f p ns ds).1 (putN f p ns ds).2))) X) : wpS (sSetF i f fo m env) Z X := by
  unfold sSetF
  cases e : m env with
  | ok p =>
    rw [e] at h
    obtain ⟨d, e1⟩ := p
    obtain ⟨c, ns, ds, h1, h2, h⟩ := wpE_o.mp h
    show wpS (match ownAt e1 i with | some (.ins c ns ds) => if fo c = true ∧ ns.length < 1000 then .ok (.nx, setAt e1 i (.ins c (putN f d ns ds).1 (putN f d ns ds).2)) else .bad | _ => .bad) Z X
    have h1 : ownAt e1 i = some (.ins c ns ds) := h1
    simp only [h1]
    rw [if_pos h2]
    exact wpS_o.mpr h
  | exc x => rw [e] at h; exact wpS_x.mpr (wpE_x.mp h)
  | bad => rw [e] at h; exact (wpE_b h).elim
theorem w_flat {r : R D} {d : D} (e : r = .ok d) (hf : flatD d = true) (h : Q d env) : wpE (mFlat r env) Q X := by
  unfold mFlat flatR
  rw [e]
  simp only [hf, if_true]
  exact wpE_o.mpr h
theorem w_pkR {g : D → D → R D} {f : M D} {i : Nat} (h : wpE (f env) (fun d e => ∃ o r, peekAt e i = some o ∧ g d o = .ok r ∧ flatD r = true ∧ Q r e) X) : wpE (mPkR g f i env) Q X := by
  refine w_bind (wpE_mono h (fun d e h => ?_) fun _ h => h)
  obtain ⟨o, r, h1, h2, h3, h⟩ := h
  simp only [h1]
  exact w_flat h2 h3 h
theorem w_pkL {g : D → D → R D} {f : M D} {i : Nat} {o : D} (h0 : peekAt env i = some o) (h : wpE (f env) (fun d e => ∃ o r, peekAt e i = some o ∧ g o d = .ok r ∧ flatD r = true ∧ Q r e) X) : wpE (mPkL g i f env) Q X := by
  unfold mPkL
  simp only [h0]
  refine w_bind (wpE_mono h (fun d e h => ?_) fun _ h => h)
  obtain ⟨o, r, h1, h2, h3, h⟩ := h
  simp only [h1]
  exact w_flat h2 h3 h
theorem w_pk1 {g : List D → R D} {i : Nat} {o r : D} (h0 : peekAt env i = some o) (h2 : g [o] = .ok r) (h3 : flatD r = true) (h : Q r env) : wpE (mPk1 g i env) Q X := by
  unfold mPk1
  simp only [h0]
  exact w_flat h2 h3 h
end
/-! ### try, the thunk -/
section
variable {Z : Fl → Ev → Prop} {X : Xc → Prop} {env : Ev}
theorem w_tryX {n i : Nat} {ct : List (Nat × Bool)} {m ms : MS} {x : Xc} (hn : env.all noOwn = true) (e : m env = .exc x) (hc : ct.lookup x.c = some true) (h : wpS (tryEnd i (ms ((List.replicate n .no).set i (.pu (.exc x.c x.ns x.ds))))) Z X) : wpS (sTry n i ct m ms env) Z X := by
  unfold sTry
  rw [if_pos hn, e]
  simp only [hc]
  exact h
theorem w_tryN {n i : Nat} {ct : List (Nat × Bool)} {m ms : MS} {f : Fl} {e' : Ev} (hn : env.all noOwn = true) (e : m env = .ok (f, e')) (h : Z f e') : wpS (sTry n i ct m ms env) Z X := by
  unfold sTry
  rw [if_pos hn, e]
  exact wpS_o.mpr h
end
theorem filt_t {α : Type} (xs : List α) : xs.filter (fun _ => true) = xs := by
  induction xs with
  | nil => rfl
  | cons x xs ih => rw [List.filter_cons_of_pos rfl, ih]
theorem all_map {α : Type} {f : α → D} {g : α → D} {h : D → D} (xs : List α) (e : ∀ x, h (f x) = g x) : ([] ++ ((xs.map f).filter fun _ => true).map h) = xs.map g := by
  rw [filt_t, List.nil_append, List.map_map]
  exact List.map_congr_left fun x _ => e x
end Dl

set_option maxHeartbeats 1000000
/-! DNB: split by one sign and back; star arguments; results of frozen lists. -/
namespace Dl
open PySem PySem.W L2
theorem spl_ne (S : List Nat) : ∀ (t acc : List Nat) (k : Nat), TL.spl S k acc t ≠ []
  | [], acc, k => by rw [TL.spl_nil]; simp
  | c :: r, acc, 0 => by
    show (if TL.pre S (c :: r) = true then acc :: TL.spl S (S.length - 1) [] r else TL.spl S 0 (acc ++ [c]) r) ≠ []
    split
    · simp
    · exact spl_ne S r _ 0
  | c :: r, acc, k + 1 => spl_ne S r acc k
theorem spl_one {s c : Nat} {r acc : List Nat} : TL.spl [s] 0 acc (c :: r) = if c = s then acc :: TL.spl [s] 0 [] r else TL.spl [s] 0 (acc ++ [c]) r := by
  show (if ((c :: r).take 1 == [s]) = true then acc :: TL.spl [s] 0 [] r else TL.spl [s] 0 (acc ++ [c]) r) = _
  by_cases h : c = s
  · subst h; simp
  · simp [h]
theorem spl_back (s : Nat) : ∀ (t acc : List Nat), TL.joinL [s] (TL.spl [s] 0 acc t) = acc ++ t
  | [], acc => by rw [TL.spl_nil]; simp [TL.joinL]
  | c :: r, acc => by
    rw [spl_one]
    split
    · rename_i h
      subst h
      have := spl_back c r []
      cases q : TL.spl [c] 0 [] r with
      | nil => exact absurd q (spl_ne _ _ _ _)
      | cons p ps =>
        rw [q] at this
        show acc ++ ([c] ++ TL.joinL [c] (p :: ps)) = _
        rw [this]
        simp
    · rw [spl_back s r (acc ++ [c])]
      simp
theorem spl_in (s : Nat) : ∀ (t acc : List Nat), ∀ p ∈ TL.spl [s] 0 acc t, (∀ c ∈ p, c ∈ acc ∨ c ∈ t) ∧ p.length ≤ acc.length + t.length
  | [], acc => by
    rw [TL.spl_nil]
    intro p hp
    rw [List.mem_singleton.mp hp]
    exact ⟨fun c hc => .inl hc, by simp⟩
  | c :: r, acc => by
    rw [spl_one]
    split
    · intro p hp
      rcases List.mem_cons.mp hp with rfl | hp
      · exact ⟨fun c hc => .inl hc, by omega⟩
      · obtain ⟨h1, h2⟩ := spl_in s r [] p hp
        refine ⟨fun d hd => ?_, by simp only [List.length_nil] at h2; simp only [List.length_cons]; omega⟩
        rcases h1 d hd with h | h
        · cases h
        · exact .inr (List.mem_cons_of_mem _ h)
    · intro p hp
      obtain ⟨h1, h2⟩ := spl_in s r _ p hp
      refine ⟨fun d hd => ?_, by simp only [List.length_append, List.length_cons, List.length_nil] at h2 ⊢; omega⟩
      rcases h1 d hd with h | h
      · rcases List.mem_append.mp h with h | h
        · exact .inl h
        · rw [List.mem_singleton.mp h]; exact .inr (by simp)
      · exact .inr (List.mem_cons_of_mem _ h)
theorem spl_count (s : Nat) : ∀ (t acc : List Nat), (TL.spl [s] 0 acc t).length ≤ t.length + 1
  | [], acc => by rw [TL.spl_nil]; simp
  | c :: r, acc => by
    rw [spl_one]
    split
    · have := spl_count s r []; simp only [List.length_cons]; omega
    · have := spl_count s r (acc ++ [c]); simp only [List.length_cons]; omega
/-- a text that is not long -/
def okT (t : List Nat) : Prop := (∀ c ∈ t, c < 1114112) ∧ t.length ≤ 100000
theorem okT.app {s t : List Nat} (a : okT s) (b : okT t) (h : s.length + t.length ≤ 100000) : okT (s ++ t) := ⟨fun c hc => (List.mem_append.mp hc).elim (a.1 c) (b.1 c), by rw [List.length_append]; exact h⟩
theorem okT.sub {s t : List Nat} (a : okT t) (h : ∀ c ∈ s, c ∈ t) (hl : s.length ≤ t.length) : okT s := ⟨fun c hc => a.1 c (h c hc), by have := a.2; omega⟩
theorem okT.cut {t : List Nat} (a : okT t) (lo hi : Option Int) : okT (cutL t lo hi) := a.sub (fun _ h => cutL_mem h) (cutL_len _ _ _)
theorem okT.okSb {t : List Nat} (a : okT t) : okSb t = true := by
  unfold Dl.okSb
  rw [Bool.and_eq_true, List.all_eq_true]
  have := a.2
  exact ⟨fun c hc => decide_eq_true (a.1 c hc), decide_eq_true (by simp only [sizeLine]; omega)⟩
theorem split_ok {t : List Nat} {s : Nat} (h : okT t) (hs : s < 256) : gSplit t (.str [s]) = .ok (.lst ((TL.spl [s] 0 [] t).map D.str)) := by
  unfold gSplit
  simp only
  refine if_pos ⟨by simp, by simp [hs], by have := h.2; simp only [sizeLine]; omega, ?_⟩
  rw [List.all_eq_true]
  intro p hp
  obtain ⟨h1, h2⟩ := spl_in s t [] p hp
  exact (h.sub (fun c hc => (h1 c hc).elim (fun z => nomatch z) id) (by simpa using h2)).okSb
theorem spl_ok {t : List Nat} {s : Nat} (h : okT t) : ∀ p ∈ TL.spl [s] 0 [] t, okT p := fun p hp => by
  obtain ⟨h1, h2⟩ := spl_in s t [] p hp
  exact h.sub (fun c hc => (h1 c hc).elim (fun z => nomatch z) id) (by simpa using h2)
section
variable {Q : D → Ev → Prop} {X : Xc → Prop} {env : Ev}
theorem w_aconsS {Q : List Av → Ev → Prop} {m : M D} {r : List Am} (h : wpE (m env) (fun d e => ∃ ds, itemsD d = some ds ∧ wpE (mArgs r e) (fun as e2 => Q (ds.map .p ++ as) e2) X) X) : wpE (mArgs (.s m :: r) env) Q X := by
  refine w_bind (wpE_mono h (fun d e h => ?_) fun _ h => h)
  obtain ⟨ds, h1, h⟩ := h
  simp only [h1]
  exact w_bind (wpE_mono h (fun _ _ h => w_ret h) fun _ h => h)
theorem slOf_pls (e : Ev) (ds : List D) : slOf e (ds.map .p ++ []) = some (pls ds) := by rw [List.append_nil]; exact slOf_p ds
/-- a new thing by plain things alone: w_new with the arguments told -/
theorem w_newS {c : Nat} {g : List Sl → RF} {m : M (List Av)} (h : wpE (m env) (fun as e => ∃ ds, as = ds.map .p ++ [] ∧ wpF (g (.ow (.ins c [] []) :: pls ds)) (fun d outs => d = .non ∧ ∃ s r, outs = s :: r ∧ Q s (putO as r e)) X) X) : wpE (mNew c g m env) Q X := by
  refine w_new (wpE_mono h (fun as e h => ?_) fun _ h => h)
  obtain ⟨ds, rfl, h⟩ := h
  exact ⟨_, slOf_pls e ds, h⟩
end
theorem putO_p (e : Ev) (outs : List D) : ∀ ds : List D, putO (ds.map .p ++ []) outs e = e := by
  intro ds
  rw [List.append_nil]
  induction ds generalizing outs e with
  | nil => cases outs <;> rfl
  | cons d ds ih =>
    rw [List.map_cons]
    cases outs with
    | nil => exact ih e []
    | cons o os => exact ih e (o :: os)
end Dl

set_option maxHeartbeats 1000000
/-! DNC: comprehensions by an invariant; unlike letters over few; sorted words. -/
namespace Dl
open PySem PySem.W L2
theorem lc_idx {vs : List Nat} {t : MG} {te : M D} {J : Nat → List D → Ev → Prop} {Q : List D → Ev → Prop} {K : Nat} : ∀ (ds acc : List D) (env : Ev) (k : Nat), k + ds.length = K → J k acc env →
    (∀ d acc env k, d ∈ ds → k < K → J k acc env → wp (t d (wipeE env vs)) (fun e1 => wpE (te e1) (fun y e3 => J (k + 1) (acc ++ [y]) e3) noX) noX) →
    acc.length + ds.length ≤ sizeLine → (∀ acc e, J K acc e → Q acc e) → wpO (lcD vs t (M.ret true) te ds acc env) Q
  | [], acc, env, k, hk, h0, _, _, hq => lc_nil (hq acc env (by simp only [List.length_nil] at hk; rw [← hk]; exact h0))
  | d :: ds, acc, env, k, hk, h0, hs, hl, hq => by
    have hl' : acc.length + (ds.length + 1) ≤ sizeLine := hl
    have hk' : k + (ds.length + 1) = K := hk
    obtain ⟨e1, q1, h⟩ := wp_ok (hs d acc env k (by simp) (by omega) h0)
    obtain ⟨y, e3, q3, h3⟩ := wpE_ok h
    refine lc_cons (wp_eq q1 (w_ret ⟨fun _ => ?_, fun hb => by cases hb⟩))
    exact wpE_eq q3 ⟨by omega, lc_idx ds _ e3 (k + 1) (by omega) h3 (fun d a e k hd => hs d a e k (List.mem_cons_of_mem _ hd)) (by rw [List.length_append]; simp only [List.length_cons, List.length_nil]; omega) hq⟩
theorem nodup_len {α : Type} [BEq α] [LawfulBEq α] : ∀ (xs ys : List α), xs.Nodup → (∀ x ∈ xs, x ∈ ys) → xs.length ≤ ys.length
  | [], ys, _, _ => Nat.zero_le _
  | x :: xs, ys, hn, hs => by
    rw [List.nodup_cons] at hn
    have hx := hs x (by simp)
    have := nodup_len xs (ys.erase x) hn.2 fun z hz => by
      have hz2 := hs z (List.mem_cons_of_mem _ hz)
      refine (List.mem_erase_of_ne fun e => ?_).mpr hz2
      subst e
      exact hn.1 hz
    rw [List.length_erase_of_mem hx] at this
    have pos : 0 < ys.length := List.length_pos_of_mem hx
    simp only [List.length_cons]
    omega
theorem addL_nodup {xs : List (List Nat)} {k : List Nat} (h : xs.Nodup) : (addL xs k).Nodup := by
  unfold addL
  split
  · exact h
  · rename_i n
    exact List.nodup_cons.mpr ⟨n, h⟩
theorem fold_nodup : ∀ (ys xs : List (List Nat)), xs.Nodup → (ys.foldl addL xs).Nodup
  | [], xs, h => h
  | y :: ys, xs, h => fold_nodup ys _ (addL_nodup h)
theorem fold_mem : ∀ (ys xs : List (List Nat)) {z : List Nat}, z ∈ ys.foldl addL xs → z ∈ xs ∨ z ∈ ys
  | [], xs, z, h => .inl h
  | y :: ys, xs, z, h => by
    rcases fold_mem ys (addL xs y) h with h | h
    · unfold addL at h
      split at h
      · exact .inl h
      · rcases List.mem_cons.mp h with rfl | h
        · exact .inr (by simp)
        · exact .inl h
    · exact .inr (List.mem_cons_of_mem _ h)
/-- no more unlike letters than al has -/
theorem lets_al {s al : List Nat} (h : ∀ c ∈ s, c ∈ al) : (lets s).length ≤ al.length := by
  have := nodup_len (lets s) (al.map fun c => [c]) (fold_nodup _ _ List.nodup_nil) fun x hx => by
    rcases fold_mem _ _ hx with h1 | h1
    · cases h1
    · obtain ⟨c, hc, rfl⟩ := List.mem_map.mp h1
      exact List.mem_map.mpr ⟨c, h c hc, rfl⟩
  rwa [List.length_map] at this
theorem lt_of_le_ne {a b : List Nat} (h : a ≤ b) (n : a ≠ b) : a < b := by
  by_cases q : a < b
  · exact q
  · exact absurd (List.le_antisymm h q) n
theorem sortL_str {ws : List (List Nat)} (h : ws.Nodup) : (sortL ws).Pairwise (· < ·) := by
  have h1 := sortL_ord ws
  have h2 : (sortL ws).Nodup := (sortL_perm ws).nodup_iff.mpr h
  rw [List.pairwise_iff_getElem] at h1 ⊢
  intro i j hi hj hij
  refine lt_of_le_ne (h1 i j hi hj hij) fun e => ?_
  have := (List.nodup_iff_pairwise_ne.mp h2)
  rw [List.pairwise_iff_getElem] at this
  exact this i j hi hj hij e
/-- drawn words: some unlike ones of one length over few letters -/
def Words (ws : List (List Nat)) : Prop := (1 ≤ ws.length ∧ ws.length ≤ 3) ∧ ws.Nodup ∧ (∃ n, (1 ≤ n ∧ n ≤ 4) ∧ ∀ w ∈ ws, w.length = n) ∧ ∃ al : List Nat, al.length ≤ 3 ∧ (∀ c ∈ al, isLow c = true) ∧ ∀ w ∈ ws, ∀ c ∈ w, c ∈ al
theorem Words.wd {ws : List (List Nat)} (h : Words ws) : ∀ w ∈ ws, isWd w = true := fun w hw => by
  obtain ⟨_, _, ⟨n, hn, hl⟩, al, _, ha, hc⟩ := h
  unfold isWd
  rw [hl w hw]
  simp only [Bool.and_eq_true, List.all_eq_true, decide_eq_true_eq]
  exact ⟨fun c h => ha c (hc w hw c h), hn⟩
theorem Words.lets {ws us : List (List Nat)} (h : Words ws) (hs : ∀ w ∈ us, w ∈ ws) : (Dl.lets us.flatten).length ≤ 3 := by
  obtain ⟨_, _, _, al, h3, _, hc⟩ := h
  refine Nat.le_trans (lets_al fun c hc' => ?_) h3
  obtain ⟨w, hw, hcw⟩ := List.mem_flatten.mp hc'
  exact hc w (hs w hw) c hcw
theorem Words.one {ws : List (List Nat)} (h : Words ws) {v w : List Nat} (hv : v ∈ ws) (hw : w ∈ ws) : v.length = w.length := by
  obtain ⟨_, _, ⟨n, _, hl⟩, _⟩ := h
  rw [hl v hv, hl w hw]
/-- the slots told anew, some of them unknown -/
theorem w_ex {m : MS} {e : Ev} {P : Ev → Prop} {Z : Fl → Ev → Prop} {X : Xc → Prop} (h : P e) (k : ∀ e', P e' → wpS (m e') Z X) : wpS (m e) Z X := k e h
end Dl

set_option maxHeartbeats 1000000
/-! DND: words and letters in any order. -/
namespace Dl
open PySem PySem.W L2
theorem sort_perm {us vs : List (List Nat)} (p : us.Perm vs) : sortL us = sortL vs := ord_uniq _ _ ((sortL_perm us).trans (p.trans (sortL_perm vs).symm)) (sortL_ord _) (sortL_ord _)
theorem addL_mem {z k : List Nat} {xs : List (List Nat)} : z ∈ addL xs k ↔ z ∈ xs ∨ z = k := by
  unfold addL
  split
  · exact ⟨.inl, fun h => h.elim id fun e => by rw [e]; assumption⟩
  · rw [List.mem_cons]
    exact ⟨fun h => h.elim .inr .inl, fun h => h.elim .inr .inl⟩
theorem fold_iff {z : List Nat} : ∀ (ys xs : List (List Nat)), z ∈ ys.foldl addL xs ↔ z ∈ xs ∨ z ∈ ys
  | [], xs => by simp
  | y :: ys, xs => by
    rw [List.foldl_cons, fold_iff ys, addL_mem, List.mem_cons, or_assoc]
theorem mem_lets {s z : List Nat} : z ∈ lets s ↔ ∃ c ∈ s, z = [c] := by
  unfold lets onceL
  rw [fold_iff, List.mem_map]
  constructor
  · rintro (h | ⟨c, hc, rfl⟩)
    · cases h
    · exact ⟨c, hc, rfl⟩
  · rintro ⟨c, hc, rfl⟩
    exact .inr ⟨c, hc, rfl⟩
theorem lets_perm {s t : List Nat} (h : ∀ c, c ∈ s ↔ c ∈ t) : (lets s).Perm (lets t) := by
  refine (List.perm_ext_iff_of_nodup (fold_nodup _ _ List.nodup_nil) (fold_nodup _ _ List.nodup_nil)).mpr fun z => ?_
  show z ∈ lets s ↔ z ∈ lets t
  rw [mem_lets, mem_lets]
  exact ⟨fun ⟨c, hc, e⟩ => ⟨c, (h c).mp hc, e⟩, fun ⟨c, hc, e⟩ => ⟨c, (h c).mpr hc, e⟩⟩
theorem letT_congr {s t : List Nat} (h : ∀ c, c ∈ s ↔ c ∈ t) : letT s = letT t := by
  unfold letT
  rw [sort_perm (lets_perm h)]
theorem mem_flat {us vs : List (List Nat)} (h : ∀ w, w ∈ us ↔ w ∈ vs) (c : Nat) : c ∈ us.flatten ↔ c ∈ vs.flatten := by
  rw [List.mem_flatten, List.mem_flatten]
  exact ⟨fun ⟨w, hw, hc⟩ => ⟨w, (h w).mp hw, hc⟩, fun ⟨w, hw, hc⟩ => ⟨w, (h w).mpr hw, hc⟩⟩
theorem eqPs_strs : ∀ xs ys : List (List Nat), eqPs (xs.map D.str) (ys.map D.str) = decide (xs = ys)
  | [], [] => by simp [eqPs]
  | [], y :: ys => by simp [eqPs]
  | x :: xs, [] => by simp [eqPs]
  | x :: xs, y :: ys => by
    rw [List.map_cons, List.map_cons]
    show ((x == y) && eqPs (xs.map D.str) (ys.map D.str)) = _
    rw [eqPs_strs xs ys, Bool.eq_iff_iff]
    simp
theorem filt_strs (xs : List (List Nat)) (p : D → Bool) (q : List Nat → Bool) (h : ∀ w, p (.str w) = q w) : (xs.map D.str).filter p = (xs.filter q).map D.str := by
  rw [List.filter_map]
  have : (p ∘ D.str) = q := funext h
  rw [this]
end Dl

namespace Wp
def gcdI (t b : Int) : Int := ((Nat.gcd t.natAbs b.natAbs : Nat) : Int)
def partI (t b : Int) : Int := if 0 < b then gcdI t b else -gcdI t b
def lowT (t b : Int) : Int := t.fdiv (partI t b)
def lowB (t b : Int) : Int := b.fdiv (partI t b)
theorem gcdI_pos {t b : Int} (hb : b ≠ 0) : 0 < gcdI t b := by
  unfold gcdI
  have : 0 < Nat.gcd t.natAbs b.natAbs := Nat.gcd_pos_of_pos_right _ (by omega)
  omega
theorem partI_ne {t b : Int} (hb : b ≠ 0) : partI t b ≠ 0 := by
  have := gcdI_pos (t := t) hb
  unfold partI
  split <;> omega
theorem gcdI_dvd_l (t b : Int) : gcdI t b ∣ t := Int.ofNat_dvd_left.mpr (Nat.gcd_dvd_left _ _)
theorem gcdI_dvd_r (t b : Int) : gcdI t b ∣ b := Int.ofNat_dvd_left.mpr (Nat.gcd_dvd_right _ _)
theorem partI_dvd_l (t b : Int) : partI t b ∣ t := by
  unfold partI; split
  · exact gcdI_dvd_l t b
  · exact Int.neg_dvd.mpr (gcdI_dvd_l t b)
theorem partI_dvd_r (t b : Int) : partI t b ∣ b := by
  unfold partI; split
  · exact gcdI_dvd_r t b
  · exact Int.neg_dvd.mpr (gcdI_dvd_r t b)
theorem lowT_eq {t b : Int} (hb : b ≠ 0) : partI t b * lowT t b = t := by
  unfold lowT
  exact Int.mul_fdiv_cancel' (partI_dvd_l t b)
theorem lowB_eq {t b : Int} (hb : b ≠ 0) : partI t b * lowB t b = b := by
  unfold lowB
  exact Int.mul_fdiv_cancel' (partI_dvd_r t b)
theorem lowB_pos {t b : Int} (hb : b ≠ 0) : 0 < lowB t b := by
  have e := lowB_eq (t := t) hb
  have g := gcdI_pos (t := t) hb
  unfold partI at e
  split at e
  · rename_i h
    exact Int.pos_of_mul_pos_left (by rw [Int.mul_comm, e]; exact h) g
  · rename_i h
    have h2 : gcdI t b * lowB t b = -b := by rw [Int.neg_mul] at e; omega
    exact Int.pos_of_mul_pos_left (by rw [Int.mul_comm, h2]; omega) g
theorem low_cop {t b : Int} (hb : b ≠ 0) : Nat.Coprime (lowT t b).natAbs (lowB t b).natAbs := by
  have e1 := congrArg Int.natAbs (lowT_eq (t := t) hb)
  have e2 := congrArg Int.natAbs (lowB_eq (t := t) hb)
  rw [Int.natAbs_mul] at e1 e2
  have g := gcdI_pos (t := t) hb
  have hg : (partI t b).natAbs = Nat.gcd t.natAbs b.natAbs := by
    unfold partI gcdI; split <;> simp
  rw [hg] at e1 e2
  have gp : 0 < Nat.gcd t.natAbs b.natAbs := Nat.gcd_pos_of_pos_right _ (by omega)
  have : Nat.gcd t.natAbs b.natAbs * Nat.gcd (lowT t b).natAbs (lowB t b).natAbs = Nat.gcd t.natAbs b.natAbs := by
    rw [← Nat.gcd_mul_left, e1, e2]
  exact Nat.eq_of_mul_eq_mul_left gp (by rw [this, Nat.mul_one])
theorem cop_uniq {x y x' y' : Int} (hy : 0 < y) (hy' : 0 < y') (c : Nat.Coprime x.natAbs y.natAbs) (c' : Nat.Coprime x'.natAbs y'.natAbs) (h : x * y' = x' * y) : x = x' ∧ y = y' := by
  have hn := congrArg Int.natAbs h
  rw [Int.natAbs_mul, Int.natAbs_mul] at hn
  have d1 : y.natAbs ∣ y'.natAbs := c.symm.dvd_of_dvd_mul_left (by rw [hn]; exact Nat.dvd_mul_left _ _)
  have d2 : y'.natAbs ∣ y.natAbs := c'.symm.dvd_of_dvd_mul_left (by rw [← hn]; exact Nat.dvd_mul_left _ _)
  have e : y.natAbs = y'.natAbs := Nat.dvd_antisymm d1 d2
  have ey : y = y' := by omega
  subst ey
  exact ⟨Int.eq_of_mul_eq_mul_right (by omega) h, rfl⟩
theorem low_uniq {t b t' b' : Int} (hb : b ≠ 0) (hb' : b' ≠ 0) (h : t * b' = t' * b) : lowT t b = lowT t' b' ∧ lowB t b = lowB t' b' := by
  refine cop_uniq (lowB_pos hb) (lowB_pos hb') (low_cop hb) (low_cop hb') ?_
  have e1 := lowT_eq (t := t) hb
  have e2 := lowB_eq (t := t) hb
  have e3 := lowT_eq (t := t') hb'
  have e4 := lowB_eq (t := t') hb'
  have p1 := partI_ne (t := t) hb
  have p2 := partI_ne (t := t') hb'
  have p : partI t b * partI t' b' ≠ 0 := Int.mul_ne_zero p1 p2
  apply Int.eq_of_mul_eq_mul_left p
  have : partI t b * partI t' b' * (lowT t b * lowB t' b') = (partI t b * lowT t b) * (partI t' b' * lowB t' b') := by simp only [Int.mul_assoc, Int.mul_left_comm, Int.mul_comm]
  rw [this, e1, e4, h]
  have : partI t b * partI t' b' * (lowT t' b' * lowB t b) = (partI t' b' * lowT t' b') * (partI t b * lowB t b) := by simp only [Int.mul_assoc, Int.mul_left_comm, Int.mul_comm]
  rw [this, e3, e2]
theorem lowT_abs {t b : Int} (hb : b ≠ 0) : (lowT t b).natAbs ≤ t.natAbs := by
  have e := congrArg Int.natAbs (lowT_eq (t := t) hb)
  rw [Int.natAbs_mul] at e
  have p := partI_ne (t := t) hb
  rw [← e]
  exact Nat.le_mul_of_pos_left _ (by omega)
theorem lowB_abs {t b : Int} (hb : b ≠ 0) : (lowB t b).natAbs ≤ b.natAbs := by
  have e := congrArg Int.natAbs (lowB_eq (t := t) hb)
  rw [Int.natAbs_mul] at e
  have p := partI_ne (t := t) hb
  rw [← e]
  exact Nat.le_mul_of_pos_left _ (by omega)
/-- the cross product of a fraction and its lowest terms -/
theorem low_cross {t b : Int} (hb : b ≠ 0) : lowT t b * b = t * lowB t b := by
  have e1 := lowT_eq (t := t) hb
  have e2 := lowB_eq (t := t) hb
  have p := partI_ne (t := t) hb
  apply Int.eq_of_mul_eq_mul_left p
  rw [← Int.mul_assoc, e1, Int.mul_left_comm, e2]
section
variable {a b c d k : Int}
theorem pos_ne {x : Int} (h : 0 < x) : x ≠ 0 := by omega
theorem low_neg (hb : b ≠ 0) : lowT (-lowT a b) (lowB a b) = lowT (0 - a) b ∧ lowB (-lowT a b) (lowB a b) = lowB (0 - a) b := by
  refine low_uniq (pos_ne (lowB_pos hb)) hb ?_
  have c1 := low_cross (t := a) hb
  rw [Int.zero_sub, Int.neg_mul, Int.neg_mul, c1]
theorem crs1 (hb : b ≠ 0) : ∀ y : Int, lowT a b * y * b = a * (lowB a b * y) := fun y => by
  have c1 := low_cross (t := a) hb
  have : lowT a b * y * b = lowT a b * b * y := by ac_rfl
  rw [this, c1]; ac_rfl
theorem low_add (hb : b ≠ 0) (hd : d ≠ 0) : lowT (lowT a b * lowB c d + lowT c d * lowB a b) (lowB a b * lowB c d) = lowT (a * d + c * b) (b * d) ∧ lowB (lowT a b * lowB c d + lowT c d * lowB a b) (lowB a b * lowB c d) = lowB (a * d + c * b) (b * d) := by
  refine low_uniq (Int.mul_ne_zero (pos_ne (lowB_pos hb)) (pos_ne (lowB_pos hd))) (Int.mul_ne_zero hb hd) ?_
  have c1 := low_cross (t := a) hb
  have c2 := low_cross (t := c) hd
  rw [Int.add_mul, Int.add_mul]
  have e1 : lowT a b * lowB c d * (b * d) = (lowT a b * b) * (lowB c d * d) := by ac_rfl
  have e2 : lowT c d * lowB a b * (b * d) = (lowT c d * d) * (lowB a b * b) := by ac_rfl
  rw [e1, e2, c1, c2]
  congr 1 <;> ac_rfl
theorem low_sub (hb : b ≠ 0) (hd : d ≠ 0) : lowT (lowT a b * lowB c d - lowT c d * lowB a b) (lowB a b * lowB c d) = lowT (a * d - c * b) (b * d) ∧ lowB (lowT a b * lowB c d - lowT c d * lowB a b) (lowB a b * lowB c d) = lowB (a * d - c * b) (b * d) := by
  refine low_uniq (Int.mul_ne_zero (pos_ne (lowB_pos hb)) (pos_ne (lowB_pos hd))) (Int.mul_ne_zero hb hd) ?_
  have c1 := low_cross (t := a) hb
  have c2 := low_cross (t := c) hd
  rw [Int.sub_mul, Int.sub_mul]
  have e1 : lowT a b * lowB c d * (b * d) = (lowT a b * b) * (lowB c d * d) := by ac_rfl
  have e2 : lowT c d * lowB a b * (b * d) = (lowT c d * d) * (lowB a b * b) := by ac_rfl
  rw [e1, e2, c1, c2]
  congr 1 <;> ac_rfl
theorem low_mul (hb : b ≠ 0) (hd : d ≠ 0) : lowT (lowT a b * lowT c d) (lowB a b * lowB c d) = lowT (a * c) (b * d) ∧ lowB (lowT a b * lowT c d) (lowB a b * lowB c d) = lowB (a * c) (b * d) := by
  refine low_uniq (Int.mul_ne_zero (pos_ne (lowB_pos hb)) (pos_ne (lowB_pos hd))) (Int.mul_ne_zero hb hd) ?_
  have c1 := low_cross (t := a) hb
  have c2 := low_cross (t := c) hd
  have e1 : lowT a b * lowT c d * (b * d) = (lowT a b * b) * (lowT c d * d) := by ac_rfl
  rw [e1, c1, c2]; ac_rfl
theorem low_zero (hb : b ≠ 0) : lowT a b = 0 ↔ a = 0 := by
  have c1 := low_cross (t := a) hb
  constructor
  · intro h
    rw [h, Int.zero_mul] at c1
    rcases Int.mul_eq_zero.mp c1.symm with h | h
    · exact h
    · exact absurd h (pos_ne (lowB_pos hb))
  · intro h
    rw [h, Int.zero_mul] at c1
    rcases Int.mul_eq_zero.mp c1 with h | h
    · rw [← ‹a = 0›] at h; exact h.trans (by assumption)
    · exact absurd h hb
theorem low_over (hb : b ≠ 0) (hd : d ≠ 0) (hc : c ≠ 0) : lowT (lowT a b * lowB c d) (lowB a b * lowT c d) = lowT (a * d) (b * c) ∧ lowB (lowT a b * lowB c d) (lowB a b * lowT c d) = lowB (a * d) (b * c) := by
  have hz : lowT c d ≠ 0 := fun h => hc ((low_zero hd).mp h)
  refine low_uniq (Int.mul_ne_zero (pos_ne (lowB_pos hb)) hz) (Int.mul_ne_zero hb hc) ?_
  have c1 := low_cross (t := a) hb
  have c2 := low_cross (t := c) hd
  have e1 : lowT a b * lowB c d * (b * c) = (lowT a b * b) * (c * lowB c d) := by ac_rfl
  rw [e1, c1, ← c2]; ac_rfl
theorem low_eq (hb : b ≠ 0) (hd : d ≠ 0) : (lowT a b == lowT c d && lowB a b == lowB c d) = (a * d == c * b) := by
  rw [Bool.eq_iff_iff, Bool.and_eq_true, beq_iff_eq, beq_iff_eq, beq_iff_eq]
  constructor
  · rintro ⟨h1, h2⟩
    have c1 := low_cross (t := a) hb
    have c2 := low_cross (t := c) hd
    rw [← h1, ← h2] at c2
    apply Int.eq_of_mul_eq_mul_right (pos_ne (lowB_pos (t := a) hb))
    have e1 : a * d * lowB a b = (a * lowB a b) * d := by ac_rfl
    have e2 : c * b * lowB a b = (c * lowB a b) * b := by ac_rfl
    rw [e1, e2, ← c1, ← c2]; ac_rfl
  · exact fun h => low_uniq hb hd h
theorem low_one : lowT k 1 = k ∧ lowB k 1 = 1 := by
  have e1 := lowT_eq (t := k) (b := 1) (by decide)
  have e2 := lowB_eq (t := k) (b := 1) (by decide)
  have p : partI k 1 = 1 := by unfold partI gcdI; simp
  rw [p] at e1 e2
  exact ⟨by simpa using e1, by simpa using e2⟩
theorem low_addk (hb : b ≠ 0) : lowT (lowT a b * 1 + k * lowB a b) (lowB a b * 1) = lowT (a + k * b) b ∧ lowB (lowT a b * 1 + k * lowB a b) (lowB a b * 1) = lowB (a + k * b) b := by
  have h := low_add (a := a) (c := k) (d := 1) hb (by decide)
  simp only [low_one.1, low_one.2, Int.mul_one] at h ⊢
  exact h
theorem low_subk (hb : b ≠ 0) : lowT (lowT a b * 1 - k * lowB a b) (lowB a b * 1) = lowT (a - k * b) b ∧ lowB (lowT a b * 1 - k * lowB a b) (lowB a b * 1) = lowB (a - k * b) b := by
  have h := low_sub (a := a) (c := k) (d := 1) hb (by decide)
  simp only [low_one.1, low_one.2, Int.mul_one] at h ⊢
  exact h
theorem low_rsubk (hb : b ≠ 0) : lowT (k * lowB a b - lowT a b * 1) (lowB a b * 1) = lowT (k * b - a) b ∧ lowB (k * lowB a b - lowT a b * 1) (lowB a b * 1) = lowB (k * b - a) b := by
  have h := low_sub (a := k) (b := 1) (c := a) (d := b) (by decide) hb
  simp only [low_one.1, low_one.2, Int.mul_one, Int.one_mul] at h ⊢
  exact h
theorem low_mulk (hb : b ≠ 0) : lowT (lowT a b * k) (lowB a b * 1) = lowT (a * k) b ∧ lowB (lowT a b * k) (lowB a b * 1) = lowB (a * k) b := by
  have h := low_mul (a := a) (c := k) (d := 1) hb (by decide)
  simp only [low_one.1, low_one.2, Int.mul_one] at h ⊢
  exact h
theorem low_overk (hb : b ≠ 0) (hk : k ≠ 0) : lowT (lowT a b * 1) (lowB a b * k) = lowT a (b * k) ∧ lowB (lowT a b * 1) (lowB a b * k) = lowB a (b * k) := by
  have h := low_over (a := a) (c := k) (d := 1) hb (by decide) hk
  simp only [low_one.1, low_one.2, Int.mul_one] at h ⊢
  exact h
theorem low_eqk (hb : b ≠ 0) : (lowB a b == 1 && lowT a b == k) = (a == k * b) := by
  have h := low_eq (a := a) (c := k) (d := 1) hb (by decide)
  simp only [low_one.1, low_one.2, Int.mul_one] at h
  rw [Bool.and_comm]
  exact h
end
end Wp

set_option maxHeartbeats 1000000
/-! DNE: whole numbers and their texts. -/
namespace Dl
open PySem PySem.W L2
open NumText (digitsVal)
open TL (numL)
def isFig (c : Nat) : Bool := decide (48 ≤ c) && decide (c ≤ 57)
def figs : List Nat := [48, 49, 50, 51, 52, 53, 54, 55, 56, 57]
theorem figs_fig (c : Nat) : figs.contains c = isFig c := by
  have h : figs.contains c = true ↔ isFig c = true := by
    simp only [figs, isFig, List.contains_cons, List.contains_nil, Bool.or_eq_true, beq_iff_eq, Bool.false_eq_true, or_false, Bool.and_eq_true, decide_eq_true_eq]
    omega
  cases h1 : figs.contains c <;> cases h2 : isFig c <;> simp_all
theorem in_figs {cm m : Nat → Option (List Sl → RF)} (c : Nat) : inV cm m (.str [c]) (.str figs) = .ok (.bl (isFig c)) := by
  show R.ok (D.bl (figs.contains c)) = _
  rw [figs_fig]
theorem notin_figs {cm m : Nat → Option (List Sl → RF)} (c : Nat) : notInV cm m (.str [c]) (.str figs) = .ok (.bl (!isFig c)) := by
  unfold notInV
  rw [in_figs]
  rfl
/-- a whole number's text from 0 on, as str writes it -/
def numB (w : List Nat) : Bool := !w.isEmpty && (w.all isFig && (w == [48] || w.getD 0 0 != 48))
theorem fig_bd {c : Nat} (h : isFig c = true) : 48 ≤ c ∧ c ≤ 57 := by
  unfold isFig at h
  simpa using h
theorem numL_head : ∀ n : Nat, 0 < n → (numL n).getD 0 0 ≠ 48 := by
  intro n
  induction n using Nat.strongRecOn with
  | _ n ih =>
    intro h0
    by_cases h : n < 10
    · rw [TL.numL_lt h]
      show 48 + n ≠ 48
      omega
    · rw [TL.numL_step (by omega)]
      have := ih (n / 10) (by omega) (by omega)
      cases q : numL (n / 10) with
      | nil => exact absurd q (TL.numL_ne _)
      | cons c r => rw [q] at this; exact this
theorem numB_num (n : Nat) : numB (numL n) = true := by
  unfold numB
  have h1 : (numL n).isEmpty = false := by
    cases q : numL n with
    | nil => exact absurd q (TL.numL_ne _)
    | cons c r => rfl
  have h2 : (numL n).all isFig = true := by
    rw [List.all_eq_true]
    intro c hc
    have := TL.numL_digits n c hc
    unfold isFig
    simpa using this
  rw [h1, h2]
  simp only [Bool.not_false, Bool.true_and, Bool.or_eq_true, beq_iff_eq, bne_iff_ne]
  rcases Nat.eq_zero_or_pos n with rfl | h
  · exact .inl (TL.numL_lt (by decide))
  · exact .inr (numL_head n h)
theorem val_app (u : List Nat) (c : Nat) : digitsVal (u ++ [c]) = digitsVal u * 10 + (c - 48) := by
  unfold digitsVal
  rw [List.foldl_append]
  rfl
theorem num_val : ∀ (n : Nat) (w : List Nat), w.length = n → numB w = true → numL (digitsVal w) = w ∧ (w ≠ [48] → 0 < digitsVal w) := by
  intro n
  induction n with
  | zero =>
    intro w hl h
    rw [List.length_eq_zero_iff.mp hl] at h
    cases h
  | succ n ih =>
    intro w hl h
    obtain ⟨u, c, rfl⟩ : ∃ u c, w = u ++ [c] := by
      have hne : w ≠ [] := fun e => by rw [e] at hl; cases hl
      exact ⟨w.dropLast, w.getLast hne, (List.dropLast_concat_getLast hne).symm⟩
    rw [List.length_append] at hl
    have h0 := h
    unfold numB at h
    simp only [Bool.and_eq_true, List.all_append, List.all_cons, List.all_nil, Bool.and_true, Bool.or_eq_true, beq_iff_eq, bne_iff_ne] at h
    obtain ⟨_, ⟨hu, hc⟩, hh⟩ := h
    have c1 := fig_bd hc
    rw [val_app]
    cases hu' : u with
    | nil =>
      subst hu'
      show numL (0 * 10 + (c - 48)) = [c] ∧ _
      rw [show 0 * 10 + (c - 48) = c - 48 by omega, TL.numL_lt (by omega), show 48 + (c - 48) = c by omega]
      refine ⟨rfl, fun h => ?_⟩
      show 0 < digitsVal [] * 10 + (c - 48)
      have : c ≠ 48 := fun e => h (by rw [e]; rfl)
      omega
    | cons a r =>
      rw [← hu']
      have ua : u.getD 0 0 = a := by rw [hu']; rfl
      have na : a ≠ 48 := by
        rcases hh with hh | hh
        · rw [hu'] at hh
          have := congrArg List.length hh
          simp at this
        · rw [hu'] at hh
          exact hh
      have nu : numB u = true := by
        unfold numB
        rw [hu, ua]
        simp only [hu', List.isEmpty_cons, Bool.not_false, Bool.true_and, Bool.or_eq_true, bne_iff_ne]
        exact .inr na
      have hul : u.length = n := by simp only [List.length_cons, List.length_nil] at hl; omega
      obtain ⟨i1, i2⟩ := ih u hul nu
      have pos := i2 fun e => na (by rw [e] at ua; exact ua.symm)
      refine ⟨?_, fun _ => by omega⟩
      rw [TL.numL_step (by omega), show (digitsVal u * 10 + (c - 48)) / 10 = digitsVal u by omega, show (digitsVal u * 10 + (c - 48)) % 10 = c - 48 by omega, i1, show 48 + (c - 48) = c by omega]
theorem num_back {w : List Nat} (h : numB w = true) : numL (digitsVal w) = w := (num_val _ w rfl h).1
theorem val_zero {w : List Nat} (h : numB w = true) : digitsVal w = 0 ↔ w = [48] := by
  constructor
  · intro e
    rw [← num_back h, e]
    exact TL.numL_lt (by decide)
  · rintro rfl; rfl
theorem num_all {w : List Nat} (h : numB w = true) : w.all isFig = true ∧ w ≠ [] := by
  unfold numB at h
  simp only [Bool.and_eq_true] at h
  refine ⟨h.2.1, fun e => ?_⟩
  rw [e] at h
  exact absurd h.1 (by decide)
theorem int_num {w : List Nat} (h : numB w = true) (hl : w.length ≤ 640) : gInt [.str w] = .ok (.int (digitsVal w : Nat)) := by
  have e : PySem.intText? (strOf w) = some ((digitsVal w : Nat) : Int) := SX.int_S (a := w) (num_all h).1 (num_all h).2 (by omega)
  show (if w.length ≤ 640 then (match PySem.intText? (strOf w) with | some n => R.ok (D.int n) | none => .bad) else .bad) = _
  rw [if_pos hl, e]
theorem strI_nat (n : Nat) : strI (n : Int) = numL n := TL.tl_num n
theorem strI_neg {n : Nat} (h : 0 < n) : strI (-(n : Int)) = 45 :: numL n := by
  obtain ⟨m, rfl⟩ : ∃ m, n = m + 1 := ⟨n - 1, by omega⟩
  unfold strI
  show (Str.ofString (toString (Int.negSucc m))).cps.toList = _
  rw [PyProof.Rows.signs_ofString]
  show (String.toList ("-" ++ Nat.repr (m + 1))).map Char.toNat = _
  rw [String.toList_append, List.map_append, Nat.toList_repr]
  rfl
theorem log_small {n k : Nat} (hk : 0 < k) (h : n < 2 ^ k) : n.log2 < k := by
  by_cases h0 : n = 0
  · subst h0; rw [Nat.log2_zero]; exact hk
  · exact (Nat.log2_lt h0).mpr h
theorem okSb_num (n : Nat) (h : n < 10 ^ 550) : okSb (numL n) = true := by
  unfold okSb
  have hl := TL.numL_len (k := 550) (by decide) h
  rw [Bool.and_eq_true, List.all_eq_true]
  refine ⟨fun c hc => decide_eq_true ?_, decide_eq_true (by simp only [sizeLine]; omega)⟩
  have := TL.numL_digits n c hc
  omega
theorem nat_small {n : Nat} (h : n < 10 ^ 550) : n.log2 < 1920 := log_small (by decide) (Nat.lt_of_lt_of_le h (by decide +kernel))
theorem str_nat {st : Nat → Option (List Sl → RF)} {n : Nat} (h : n < 10 ^ 550) : gStr st [.int n] = .ok (.str (numL n)) ∧ fmtD (.int n) = .ok (.str (numL n)) := by
  have c : ((n : Int).natAbs.log2 < 1920 ∧ okSb (strI n) = true) := ⟨by rw [Int.natAbs_natCast]; exact nat_small h, by rw [strI_nat]; exact okSb_num n h⟩
  refine ⟨?_, ?_⟩
  · show (if _ then _ else _) = _
    rw [if_pos c, strI_nat]
  · show (if _ then _ else _) = _
    rw [if_pos c, strI_nat]
theorem str_negI {st : Nat → Option (List Sl → RF)} {n : Nat} (h0 : 0 < n) (h : n < 10 ^ 550) : gStr st [.int (-(n : Int))] = .ok (.str (45 :: numL n)) ∧ fmtD (.int (-(n : Int))) = .ok (.str (45 :: numL n)) := by
  have c : ((-(n : Int)).natAbs.log2 < 1920 ∧ okSb (strI (-(n : Int))) = true) := by
    refine ⟨by rw [Int.natAbs_neg, Int.natAbs_natCast]; exact nat_small h, ?_⟩
    rw [strI_neg h0]
    have := okSb_num n h
    have hl := TL.numL_len (k := 550) (by decide) h
    unfold okSb at this ⊢
    rw [Bool.and_eq_true] at this ⊢
    refine ⟨by rw [List.all_cons, this.1]; rfl, decide_eq_true (by simp only [List.length_cons, sizeLine]; omega)⟩
  refine ⟨?_, ?_⟩
  · show (if _ then _ else _) = _
    rw [if_pos c, strI_neg h0]
  · show (if _ then _ else _) = _
    rw [if_pos c, strI_neg h0]
/-- a whole number's text -/
def intT (i : Int) : List Nat := if 0 ≤ i then numL i.toNat else 45 :: numL i.natAbs
theorem str_int {st : Nat → Option (List Sl → RF)} {i : Int} (h : i.natAbs < 10 ^ 550) : gStr st [.int i] = .ok (.str (intT i)) ∧ fmtD (.int i) = .ok (.str (intT i)) := by
  unfold intT
  by_cases h0 : 0 ≤ i
  · rw [if_pos h0]
    have := str_nat (st := st) (n := i.toNat) (by rw [show i.toNat = i.natAbs by omega]; exact h)
    rw [show ((i.toNat : Nat) : Int) = i by omega] at this
    exact this
  · rw [if_neg h0]
    have := str_negI (st := st) (n := i.natAbs) (by omega) h
    rw [show (-((i.natAbs : Nat) : Int)) = i by omega] at this
    exact this
theorem val_lt : ∀ (w : List Nat), w.all isFig = true → digitsVal w < 10 ^ w.length := by
  intro w
  generalize hn : w.length = n
  induction n generalizing w with
  | zero => intro _; rw [List.length_eq_zero_iff.mp hn]; decide
  | succ n ih =>
    intro h
    obtain ⟨u, c, rfl⟩ : ∃ u c, w = u ++ [c] := by
      have hne : w ≠ [] := fun e => by rw [e] at hn; cases hn
      exact ⟨w.dropLast, w.getLast hne, (List.dropLast_concat_getLast hne).symm⟩
    rw [List.all_append, Bool.and_eq_true] at h
    have hu := ih u (by rw [List.length_append] at hn; simpa using hn) h.1
    have hc : isFig c = true := by simpa using h.2
    have := fig_bd hc
    rw [val_app, Nat.pow_succ]
    omega
/-- a while, one turn -/
theorem w_while {t : M Bool} {m : MS} {n : Nat} {env : Ev} {Z : Fl → Ev → Prop} {X : Xc → Prop} (h : wpE (t env) (fun b e => (b = true → wpS (m e) (lpZ (fun e => wpS (whileD t m n e) Z X) Z) X) ∧ (b = false → Z .nx e)) X) : wpS (whileD t m (n + 1) env) Z X := by
  unfold whileD
  cases e : t env with
  | ok p =>
    rw [e] at h
    obtain ⟨b, e1⟩ := p
    have h := wpE_o.mp h
    cases b with
    | false => exact wpS_o.mpr (h.2 rfl)
    | true =>
      have h := h.1 rfl
      show wpS ((m e1).bind _) Z X
      cases q2 : m e1 with
      | bad => rw [q2] at h; exact (wpS_b h).elim
      | exc x => rw [q2] at h; exact wpS_x.mpr (wpS_x.mp h)
      | ok p =>
        obtain ⟨f, e2⟩ := p
        rw [q2] at h
        have h := wpS_o.mp h
        cases f with
        | nx => exact h
        | ct => exact h
        | bk => exact wpS_o.mpr h
        | rt r => exact wpS_o.mpr h
  | exc x => rw [e] at h; exact wpS_x.mpr (wpE_x.mp h)
  | bad => rw [e] at h; exact (wpE_b h).elim
theorem ix0_str (c : Nat) (r : List Nat) : ixD (.str (c :: r)) (.int 0) = .ok (.str [c]) := by
  show R.ofO ((atI (c :: r) 0).map fun c => D.str [c]) = _
  unfold atI ixN
  rw [if_pos (by decide), if_pos (by simp only [List.length_cons]; omega)]
  rfl
theorem cut_one {α : Type} (xs : List α) : cutL xs (some 1) none = xs.drop 1 := by
  unfold cutL HT.sIx
  simp only [show ¬ ((1 : Int) < 0) by decide, if_false]
  cases xs with
  | nil => rfl
  | cons x xs => simp
theorem w_orV {Q : D → Ev → Prop} {X : Xc → Prop} {env : Ev} {f g : M D} (h : wpE (f env) (fun d e => wp (truD d) (fun b => (b = true → Q d e) ∧ (b = false → wpE (g e) Q X)) noX) X) : wpE (mOrV f g env) Q X := by
  unfold mOrV
  refine w_bind (wpE_mono h (fun d e h => ?_) fun _ h => h)
  obtain ⟨b, q, h⟩ := wp_ok h
  show wpE (match truD d with | .ok true => .ok (d, e) | .ok false => g e | _ => .bad) Q X
  rw [q]
  cases b with
  | true => exact wpE_o.mpr (h.1 rfl)
  | false => exact h.2 rfl
end Dl

set_option maxHeartbeats 1000000
namespace Dl
open PySem PySem.W L2
local macro_rules | `(tactic| walk_at "ws1") => `(tactic| first | (with_reducible first | refine w_seq ?_ | refine w_set ?_ | refine w_setO ?_ | refine w_ifs ?_ | refine w_rets ?_ | refine w_expr ?_ | refine w_asg ?_ | refine w_end ?_ | refine w_setI ?_ | refine z_nx ?_ | refine z_rt ?_ | refine w_ret ?_ | refine w_m2 ?_ | refine w_m1 ?_ | refine w_scons ?_ | refine w_snil ?_ | refine w_bi ?_ | refine w_lst ?_ | refine w_tup ?_ | refine w_if ?_ | refine w_B ?_ | refine isB_bl ?_ | refine w_tru ?_ | refine w_notT ?_ | refine w_andT ?_ | refine w_orT ?_ | refine i_bin ?_ | refine i_ord ?_ | refine i_add ?_ | refine i_sub ?_ | refine i_gt ?_ | refine i_ge ?_ | refine i_lt ?_ | refine i_le ?_ | refine i_int ?_ | refine i_intb ?_ | refine i_abs ?_ | refine i_len ?_ | refine w_app ?_ | refine w_anil ?_ | refine w_aconsE ?_ | refine w_call ?_ | refine w_new ?_ | refine w_rng ?_ | refine w_for ?_ | refine w_dct0 ?_ | refine w_meth ?_ | refine w_lam ?_ | refine l_rt ?_ | refine l_nx ?_ | refine w_lc ?_ | refine lc_nil ?_ | refine lc_cons ?_ | refine w_par2 ?_ | refine i_neg ?_ | refine w_andV ?_ | refine w_cm ?_ | refine lp_nx ?_ | refine lp_ct ?_ | refine lp_bk ?_ | refine lp_rt ?_ | refine w_lnil ?_ | refine t_n ?_ | refine w_M1 ?_ | refine w_it ?_ | refine w_raise ?_) | ((with_reducible apply w_newL); focus exact rfl) | ((with_reducible apply w_var); focus exact rfl) | ((with_reducible apply w_vfP); focus exact rfl) | ((with_reducible apply w_vfO); focus exact rfl) | ((with_reducible apply w_ixO); focus exact rfl) | ((with_reducible apply w_mt1); focus exact rfl) | ((with_reducible apply w_aconsO); focus exact rfl) | ((with_reducible apply w_frz); focus exact rfl) | refine ⟨_, _, _, rfl, rfl, rfl, ?_⟩ | refine ⟨_, rfl, ?_⟩ | refine ⟨rfl, ?_⟩ | refine ⟨szl rfl, ?_⟩ | refine ⟨szt rfl, ?_⟩ | refine ⟨_, _, _, _, rfl, rfl, ?_⟩ | refine ⟨_, _, _, rfl, rfl, ?_⟩ | refine ⟨_, _, rfl, ?_⟩ | refine ⟨_, _, _, rfl, ⟨rfl, szt rfl⟩, ?_⟩)
local macro_rules | `(tactic| walk_at "ws") => `(tactic| repeat walk_at "ws1")

theorem draw_wp {N n : Int} {p : D} {Q : D → List D → Prop} {X : Xc → Prop} (hp : Pen N p) (hN : N ≤ 1000000) (h0 : 0 < n) (hn : n < 18446744073709551616) (h : ∀ r p', Pen (N + 1) p' → 0 ≤ r → r < n → Q (.int r) [p']) : wpF (g__law_draw [.ow p, .pu (.int n)]) Q X := by
  obtain ⟨cs, k, r, rfl, k0, k1, r0⟩ := hp
  refine w_run rfl ?_
  show wpS (M__law_draw [.pa 0 (.lst [.lst (cs.map .int), .int k, .int r]), .pu (.int n), .no, .no, .no, .no, .no]) _ _
  unfold M__law_draw
  walk_at "ws"
  refine ⟨fun hr => ?_, fun hr => ?_⟩
  · walk_at "ws"
    refine i_modP h0 fun m1 l1 u1 => ?_
    walk_at "ws"
    refine i_fdivP h0 hn fun m2 l2 => ?_
    walk_at "ws"
    exact h _ _ ⟨cs, k, _, rfl, k0, by omega, l2 r0⟩ l1 u1
  · walk_at "ws"
    refine i_mul rfl ?_
    walk_at "ws"
    cases cs with
    | nil =>
      refine i_neP (isPy_ints _) rfl (?_ : isB _ (.bl false) _)
      walk_at "ws"
      refine ⟨fun h1 => (by cases h1), fun _ => ?_⟩
      walk_at "ws"
      refine ⟨fun h1 => ?_, fun _ => ?_⟩
      · walk_at "ws"
        refine i_pow rfl ?_
        walk_at "ws"
        refine ⟨fun h2 => ?_, fun h2 => ?_⟩
        · walk_at "ws"
          refine i_pow rfl ?_
          walk_at "ws"
          refine i_mul rfl ?_
          walk_at "ws"
          refine i_fdivP h0 hn fun m1 l1 => ?_
          walk_at "ws"
          refine i_modP h0 fun m2 l2 u2 => ?_
          walk_at "ws"
          refine h _ _ ⟨_, k + 1, _, rfl, by omega, by omega, l1 ?_⟩ l2 u2
          simp only [decide_eq_true_eq] at h2
          have e18 : (10 : Int) ^ (18 : Int).toNat = 1000000000000000000 := by decide
          rw [e18] at h2 ⊢
          split <;> omega
        · walk_at "ws"
          refine i_modP (by decide) fun m1 l1 u1 => ?_
          walk_at "ws"
          refine i_mulB (A := 4294967296) (B := 1048576) (by decide) (by decide) (by omega) (by omega) (by decide) fun m2 l2 u2 => ?_
          walk_at "ws"
          refine i_pow (powOk_of (by omega) (by omega) (by decide) (by decide)) ?_
          walk_at "ws"
          refine i_modP (by decide) fun m3 l3 u3 => ?_
          walk_at "ws"
          refine i_mul rfl ?_
          walk_at "ws"
          refine i_mulB (A := 4294967296) (B := 8388608) (by omega) (by omega) (by omega) (by omega) (by decide) fun m4 l4 u4 => ?_
          walk_at "ws"
          refine i_mul rfl ?_
          walk_at "ws"
          refine i_mulB (A := 137438953472) (B := 1048576) (by omega) (by omega) (by omega) (by omega) (by decide) fun m5 l5 u5 => ?_
          walk_at "ws"
          refine i_pow (powOk_of (by omega) (by omega) (by decide) (by decide)) ?_
          walk_at "ws"
          refine i_modP (by decide) fun m6 l6 u6 => ?_
          walk_at "ws"
          refine i_fdivP (by decide) (by decide) fun m7 l7 => ?_
          walk_at "ws"
          refine i_modP h0 fun m8 l8 u8 => ?_
          walk_at "ws"
          exact h _ _ ⟨_, k + 1, _, rfl, by omega, by omega, r0⟩ l8 u8
      · refine ⟨fun h2 => (by cases h2), fun _ => ?_⟩
        walk_at "ws"
        refine i_modP (by decide) fun m1 l1 u1 => ?_
        walk_at "ws"
        refine i_mulB (A := 4294967296) (B := 1048576) (by decide) (by decide) (by omega) (by omega) (by decide) fun m2 l2 u2 => ?_
        walk_at "ws"
        refine i_pow (powOk_of (by omega) (by omega) (by decide) (by decide)) ?_
        walk_at "ws"
        refine i_modP (by decide) fun m3 l3 u3 => ?_
        walk_at "ws"
        refine i_mul rfl ?_
        walk_at "ws"
        refine i_mulB (A := 4294967296) (B := 8388608) (by omega) (by omega) (by omega) (by omega) (by decide) fun m4 l4 u4 => ?_
        walk_at "ws"
        refine i_mul rfl ?_
        walk_at "ws"
        refine i_mulB (A := 137438953472) (B := 1048576) (by omega) (by omega) (by omega) (by omega) (by decide) fun m5 l5 u5 => ?_
        walk_at "ws"
        refine i_pow (powOk_of (by omega) (by omega) (by decide) (by decide)) ?_
        walk_at "ws"
        refine i_modP (by decide) fun m6 l6 u6 => ?_
        walk_at "ws"
        refine i_fdivP (by decide) (by decide) fun m7 l7 => ?_
        walk_at "ws"
        refine i_modP h0 fun m8 l8 u8 => ?_
        walk_at "ws"
        exact h _ _ ⟨_, k + 1, _, rfl, by omega, by omega, r0⟩ l8 u8
    | cons c0 cs =>
      refine i_neP (isPy_ints _) rfl (?_ : isB _ (.bl true) _)
      walk_at "ws"
      refine ⟨fun _ => ?_, fun h1 => by cases h1⟩
      walk_at "ws"
      refine i_modP (by simp only [List.length_map, List.length_cons]; omega) fun m0 l0 u0 => ?_
      refine ix_cell (cs := c0 :: cs) l0 (by simpa using u0) fun c => ?_
      walk_at "ws"
      refine ⟨fun h1 => ?_, fun _ => ?_⟩
      · walk_at "ws"
        refine i_pow rfl ?_
        walk_at "ws"
        refine ⟨fun h2 => ?_, fun h2 => ?_⟩
        · walk_at "ws"
          refine i_pow rfl ?_
          walk_at "ws"
          refine i_mul rfl ?_
          walk_at "ws"
          refine i_fdivP h0 hn fun m1 l1 => ?_
          walk_at "ws"
          refine i_modP h0 fun m2 l2 u2 => ?_
          walk_at "ws"
          refine h _ _ ⟨_, k + 1, _, rfl, by omega, by omega, l1 ?_⟩ l2 u2
          simp only [decide_eq_true_eq] at h2
          have e18 : (10 : Int) ^ (18 : Int).toNat = 1000000000000000000 := by decide
          rw [e18] at h2 ⊢
          split <;> omega
        · walk_at "ws"
          refine i_modP (by decide) fun m1 l1 u1 => ?_
          walk_at "ws"
          refine i_mulB (A := 4294967296) (B := 1048576) (by decide) (by decide) (by omega) (by omega) (by decide) fun m2 l2 u2 => ?_
          walk_at "ws"
          refine i_pow (powOk_of (by omega) (by omega) (by decide) (by decide)) ?_
          walk_at "ws"
          refine i_modP (by decide) fun m3 l3 u3 => ?_
          walk_at "ws"
          refine i_mul rfl ?_
          walk_at "ws"
          refine i_mulB (A := 4294967296) (B := 8388608) (by omega) (by omega) (by omega) (by omega) (by decide) fun m4 l4 u4 => ?_
          walk_at "ws"
          refine i_mul rfl ?_
          walk_at "ws"
          refine i_mulB (A := 137438953472) (B := 1048576) (by omega) (by omega) (by omega) (by omega) (by decide) fun m5 l5 u5 => ?_
          walk_at "ws"
          refine i_pow (powOk_of (by omega) (by omega) (by decide) (by decide)) ?_
          walk_at "ws"
          refine i_modP (by decide) fun m6 l6 u6 => ?_
          walk_at "ws"
          refine i_fdivP (by decide) (by decide) fun m7 l7 => ?_
          walk_at "ws"
          refine i_modP h0 fun m8 l8 u8 => ?_
          walk_at "ws"
          exact h _ _ ⟨_, k + 1, _, rfl, by omega, by omega, r0⟩ l8 u8
      · refine ⟨fun h2 => (by cases h2), fun _ => ?_⟩
        walk_at "ws"
        refine i_modP (by decide) fun m1 l1 u1 => ?_
        walk_at "ws"
        refine i_mulB (A := 4294967296) (B := 1048576) (by decide) (by decide) (by omega) (by omega) (by decide) fun m2 l2 u2 => ?_
        walk_at "ws"
        refine i_pow (powOk_of (by omega) (by omega) (by decide) (by decide)) ?_
        walk_at "ws"
        refine i_modP (by decide) fun m3 l3 u3 => ?_
        walk_at "ws"
        refine i_mul rfl ?_
        walk_at "ws"
        refine i_mulB (A := 4294967296) (B := 8388608) (by omega) (by omega) (by omega) (by omega) (by decide) fun m4 l4 u4 => ?_
        walk_at "ws"
        refine i_mul rfl ?_
        walk_at "ws"
        refine i_mulB (A := 137438953472) (B := 1048576) (by omega) (by omega) (by omega) (by omega) (by decide) fun m5 l5 u5 => ?_
        walk_at "ws"
        refine i_pow (powOk_of (by omega) (by omega) (by decide) (by decide)) ?_
        walk_at "ws"
        refine i_modP (by decide) fun m6 l6 u6 => ?_
        walk_at "ws"
        refine i_fdivP (by decide) (by decide) fun m7 l7 => ?_
        walk_at "ws"
        refine i_modP h0 fun m8 l8 u8 => ?_
        walk_at "ws"
        exact h _ _ ⟨_, k + 1, _, rfl, by omega, by omega, r0⟩ l8 u8
theorem pick_wp {N : Int} {p : D} {xs : List D} {Q : D → List D → Prop} {X : Xc → Prop} (hp : Pen N p) (hN : N ≤ 1000000) (h0 : 0 < xs.length) (h1 : xs.length < 1000) (h : ∀ d ∈ xs, ∀ p', Pen (N + 1) p' → Q d [p']) : wpF (g__law_pick [.ow p, .pu (.lst xs)]) Q X := by
  refine w_run rfl ?_
  show wpS (M__law_pick [.pa 0 p, .pu (.lst xs)]) _ _
  unfold M__law_pick
  walk_at "ws"
  refine draw_wp hp hN (by omega) (by omega) fun r p' hp' r0 r1 => ?_
  refine ix_mem r0 (by omega) fun d hd => ?_
  walk_at "ws"
  exact h d hd p' hp'
theorem nat_of {r : Int} {n : Nat} (h0 : 0 ≤ r) (h1 : r < n) : ∃ a : Nat, a < n ∧ r = a := ⟨r.toNat, by omega, by omega⟩
theorem wpF_of {r r' : RF} (h : wpF r (fun d o => r' = .ok (d, o)) (fun x => r' = .exc x)) : r = r' := by
  cases r with
  | ok p => exact (wpF_o.mp h).symm
  | exc x => exact (wpF_x.mp h).symm
  | bad => exact (wpF_b h).elim
end Dl

set_option maxHeartbeats 1000000
namespace Dl
open PySem PySem.W L2
local macro_rules | `(tactic| walk_at "ws1") => `(tactic| first | (with_reducible first | refine w_seq ?_ | refine w_set ?_ | refine w_setO ?_ | refine w_ifs ?_ | refine w_rets ?_ | refine w_expr ?_ | refine w_asg ?_ | refine w_end ?_ | refine w_setI ?_ | refine z_nx ?_ | refine z_rt ?_ | refine w_ret ?_ | refine w_m2 ?_ | refine w_m1 ?_ | refine w_scons ?_ | refine w_snil ?_ | refine w_bi ?_ | refine w_lst ?_ | refine w_tup ?_ | refine w_if ?_ | refine w_B ?_ | refine isB_bl ?_ | refine w_tru ?_ | refine w_notT ?_ | refine w_andT ?_ | refine w_orT ?_ | refine i_bin ?_ | refine i_ord ?_ | refine i_add ?_ | refine i_sub ?_ | refine i_gt ?_ | refine i_ge ?_ | refine i_lt ?_ | refine i_le ?_ | refine i_int ?_ | refine i_intb ?_ | refine i_abs ?_ | refine i_len ?_ | refine w_app ?_ | refine w_anil ?_ | refine w_aconsE ?_ | refine w_call ?_ | refine w_new ?_ | refine w_rng ?_ | refine w_for ?_ | refine w_dct0 ?_ | refine w_meth ?_ | refine w_lam ?_ | refine l_rt ?_ | refine l_nx ?_ | refine w_lc ?_ | refine lc_nil ?_ | refine lc_cons ?_ | refine w_par2 ?_ | refine i_neg ?_ | refine w_andV ?_ | refine w_cm ?_ | refine lp_nx ?_ | refine lp_ct ?_ | refine lp_bk ?_ | refine lp_rt ?_ | refine w_lnil ?_ | refine t_n ?_ | refine w_M1 ?_ | refine w_it ?_ | refine w_raise ?_ | refine w_chn ?_ | refine w_sl ?_ | refine w_nop ?_ | refine w_part ?_ | refine w_pkR ?_ | refine w_setF ?_ | refine w_aconsS ?_ | refine w_orV ?_) | ((with_reducible apply w_newL); focus exact rfl) | ((with_reducible apply w_var); focus exact rfl) | ((with_reducible apply w_vfP); focus exact rfl) | ((with_reducible apply w_vfO); focus exact rfl) | ((with_reducible apply w_ixO); focus exact rfl) | ((with_reducible apply w_mt1); focus exact rfl) | ((with_reducible apply w_aconsO); focus exact rfl) | ((with_reducible apply w_frz); focus exact rfl) | refine ⟨_, _, _, rfl, rfl, rfl, ?_⟩ | refine ⟨_, rfl, ?_⟩ | refine ⟨rfl, ?_⟩ | refine ⟨szl rfl, ?_⟩ | refine ⟨szt rfl, ?_⟩ | refine ⟨_, _, _, _, rfl, rfl, ?_⟩ | refine ⟨_, _, _, rfl, rfl, ?_⟩ | refine ⟨_, _, rfl, ?_⟩ | refine ⟨_, _, _, rfl, ⟨rfl, szt rfl⟩, ?_⟩ | refine ⟨fun _ => ?_, fun hh => Bool.noConfusion hh⟩ | refine ⟨fun hh => Bool.noConfusion hh, fun _ => ?_⟩)
local macro_rules | `(tactic| walk_at "ws") => `(tactic| repeat walk_at "ws1")

open NumText (digitsVal)
open TL (numL)
abbrev shT : M Bool := (mB (m2 gtD (mVar 3) (M.ret (.int 0))))
abbrev shB : MS := (sSeq (sPar2 2 3 (mSeq [(mVar 3), (m2 modD (mBi gInt (mSeq [(mVar 2)])) (mVar 3))])) (fun env => .ok (.nx, env)))
theorem share_loop {Z : Fl → Ev → Prop} {X : Xc → Prop} {e0 e1 : Sl} : ∀ (n y x fuel : Nat), y ≤ n → y < fuel → Z .nx [e0, e1, .pu (.int (Nat.gcd x y : Nat)), .pu (.int 0)] → wpS (whileD shT shB fuel [e0, e1, .pu (.int x), .pu (.int y)]) Z X := by
  intro n
  induction n with
  | zero =>
    intro y x fuel hy hf hz
    obtain rfl : y = 0 := by omega
    obtain ⟨f, rfl⟩ : ∃ f, fuel = f + 1 := ⟨fuel - 1, by omega⟩
    refine w_while ?_
    rw [Nat.gcd_zero_right] at hz
    walk_at "ws"
    exact hz
  | succ n ih =>
    intro y x fuel hy hf hz
    obtain ⟨f, rfl⟩ : ∃ f, fuel = f + 1 := ⟨fuel - 1, by omega⟩
    refine w_while ?_
    walk_at "ws"
    refine ⟨fun h => ?_, fun h => ?_⟩
    · have y0 : 0 < y := by have := of_decide_eq_true h; omega
      walk_at "ws"
      refine i_mod (by omega) ?_
      have e : (x : Int).fmod (y : Int) = ((x % y : Nat) : Int) := by rw [Int.fmod_eq_emod_of_nonneg _ (by omega)]; rfl
      rw [e]
      walk_at "ws"
      have lt := Nat.mod_lt x y0
      refine ih (x % y) y f (by omega) (by omega) ?_
      have g : Nat.gcd y (x % y) = Nat.gcd x y := by rw [Nat.gcd_comm y, ← Nat.gcd_rec y x, Nat.gcd_comm]
      rw [g]
      exact hz
    · have y0 : ¬ 0 < y := by have := of_decide_eq_false h; omega
      obtain rfl : y = 0 := by omega
      rw [Nat.gcd_zero_right] at hz
      exact hz
theorem share_ok {a b : Int} (hb : b.natAbs < 10 ^ 650) : g__law_share [.pu (.int a), .pu (.int b)] = .ok (.int (Wp.gcdI a b), []) := by
  refine wpF_of ?_
  refine w_run rfl ?_
  show wpS (M__law_share [.pu (.int a), .pu (.int b), .no, .no]) _ _
  unfold M__law_share
  walk_at "ws"
  have ab : ∀ i : Int, (if i < 0 then -i else i) = ((i.natAbs : Nat) : Int) := fun i => by split <;> omega
  rw [ab, ab]
  refine w_norm (e' := [.pu (.int a), .pu (.int b), .pu (.int (a.natAbs : Nat)), .pu (.int (b.natAbs : Nat))]) rfl ?_
  refine share_loop b.natAbs b.natAbs a.natAbs (10 ^ 700) (Nat.le_refl _) (Nat.lt_of_lt_of_le hb (Nat.pow_le_pow_right (by decide) (by decide))) ?_
  walk_at "ws"
  rfl
def figD (w : List Nat) : D := if numB w then .int (digitsVal w : Nat) else .non
theorem numB_cons (c : Nat) (r : List Nat) : numB (c :: r) = ((c :: r).all isFig && ((c :: r) == [48] || c != 48)) := rfl
theorem figs_lc (w : List Nat) : ([] ++ ((w.map fun c => D.str [c]).filter fun _ => true).map fun d => match d with | .str [c] => D.bl (isFig c) | _ => .non) = (w.map isFig).map D.bl := by
  rw [List.map_map]
  exact all_map w fun _ => rfl
theorem figures_ok {w : List Nat} (hl : w.length ≤ 640) : g_figures_told [.pu (.str w)] = .ok (figD w, []) := by
  refine wpF_of ?_
  refine w_run rfl ?_
  show wpS (M_figures_told [.pu (.str w), .no]) _ _
  unfold M_figures_told
  cases w with
  | nil =>
    walk_at "ws"
    refine i_eqP rfl rfl ?_
    walk_at "ws"
    rfl
  | cons c r =>
    walk_at "ws"
    refine i_eqP rfl rfl ?_
    refine isB_bl ⟨fun h => (by cases h), fun _ => ?_⟩
    walk_at "ws"
    refine wp_eq (a := (c :: r).map fun c => .str [c]) rfl ?_
    refine lc_map (I := fun e => ∃ x, e = [.pu (.str (c :: r)), x]) (p := fun _ => true) (f := fun d => match d with | .str [c] => .bl (isFig c) | _ => .non) _ _ _ ⟨_, rfl⟩ (fun d hd e he => ?_) (by simp only [List.length_nil, List.length_map, sizeLine]; omega) (fun e he => ?_)
    · obtain ⟨x, rfl⟩ := he
      obtain ⟨c, _, rfl⟩ := List.mem_map.mp hd
      walk_at "ws"
      refine wp_eq (in_figs c) ?_
      exact ⟨rfl, _, rfl⟩
    obtain ⟨x, rfl⟩ := he
    rw [figs_lc]
    walk_at "ws"
    refine wp_eq (a := .bl ((c :: r).all isFig)) ?_ ?_
    · show (match bls (((c :: r).map isFig).map D.bl) with | some bs => R.ok (D.bl (bs.all id)) | none => .bad) = _
      rw [bls_map]
      simp
    refine wp_eq (a := (c :: r).all isFig) rfl ?_
    walk_at "ws"
    have nb := numB_cons c r
    generalize hall : (c :: r).all isFig = al at nb ⊢
    cases al with
    | false =>
      walk_at "ws"
      unfold figD
      rw [nb]
      rfl
    | true =>
      walk_at "ws"
      refine wp_eq (ix0_str c r) ?_
      walk_at "ws"
      refine i_eqP rfl rfl ?_
      have e1 : eqP (.str [c]) (.str [48]) = (c == 48) := by
        show ([c] == [48]) = _
        rw [Bool.eq_iff_iff]
        simp
      rw [e1]
      walk_at "ws"
      refine ⟨fun h1 => ?_, fun h1 => ?_⟩
      · obtain rfl : c = 48 := beq_iff_eq.mp h1
        walk_at "ws"
        refine i_neP rfl rfl ?_
        have e2 : (!eqP (.str (48 :: r)) (.str [48])) = !((48 :: r) == [48]) := rfl
        rw [e2]
        walk_at "ws"
        refine ⟨fun h2 => ?_, fun h2 => ?_⟩
        · walk_at "ws"
          unfold figD
          rw [nb, show ((48 :: r) == [48]) = false by simpa using h2]
          rfl
        · walk_at "ws"
          have nb' : numB (48 :: r) = true := by
            rw [nb, show ((48 :: r) == [48]) = true by simpa using h2]; rfl
          refine wp_eq (int_num nb' hl) ?_
          walk_at "ws"
          unfold figD
          rw [if_pos nb']
      · walk_at "ws"
        have nb' : numB (c :: r) = true := by
          rw [nb]
          have : (c != 48) = true := by rw [bne, h1]; rfl
          rw [this, Bool.or_true]; rfl
        refine wp_eq (int_num nb' hl) ?_
        walk_at "ws"
        unfold figD
        rw [if_pos nb']
theorem odd_fig (s : List Nat) : eqPs ((s.filter fun c => !isFig c).map fun c => D.str [c]) [] = s.all isFig := by
  induction s with
  | nil => rfl
  | cons c s ih =>
    cases h : isFig c with
    | true => rw [List.filter_cons_of_neg (by rw [h]; decide), List.all_cons, h, ih]; rfl
    | false => rw [List.filter_cons_of_pos (by rw [h]; decide), List.all_cons, h]; rfl
theorem odd_ffilter (s : List Nat) : ((s.map fun c => D.str [c]).filter fun d => match d with | .str [c] => !isFig c | _ => false) = (s.filter fun c => !isFig c).map fun c => .str [c] := by
  rw [List.filter_map]
  rfl
theorem is_number_ok {w : List Nat} (hl : w.length ≤ 100000) : g__law_is_number [.pu (.str w)] = .ok (.bl (numB w), []) := by
  refine wpF_of ?_
  refine w_run rfl ?_
  show wpS (M__law_is_number [.pu (.str w), .no]) _ _
  unfold M__law_is_number
  cases w with
  | nil =>
    walk_at "ws"
    refine i_eqP rfl rfl ?_
    walk_at "ws"
    rfl
  | cons c r =>
    walk_at "ws"
    refine i_eqP rfl rfl ?_
    refine isB_bl ⟨fun h => (by cases h), fun _ => ?_⟩
    walk_at "ws"
    refine wp_eq (a := (c :: r).map fun c => .str [c]) rfl ?_
    refine lc_map (I := fun e => ∃ x, e = [.pu (.str (c :: r)), x]) (p := fun d => match d with | .str [c] => !isFig c | _ => false) (f := fun d => d) _ _ _ ⟨_, rfl⟩ (fun d hd e he => ?_) (by simp only [List.length_nil, List.length_map, sizeLine]; omega) (fun e he => ?_)
    · obtain ⟨x, rfl⟩ := he
      obtain ⟨c, _, rfl⟩ := List.mem_map.mp hd
      walk_at "ws"
      refine wp_eq (notin_figs c) ?_
      walk_at "ws"
      refine ⟨fun h => ⟨h, ?_⟩, fun h => ⟨h, ?_⟩⟩
      · walk_at "ws"
        exact ⟨_, rfl⟩
      · exact ⟨_, rfl⟩
    obtain ⟨x, rfl⟩ := he
    rw [odd_ffilter, List.nil_append, List.map_id']
    walk_at "ws"
    refine i_neP ?_ rfl ?_
    · show (((c :: r).filter fun c => !isFig c).map fun c => D.str [c]).all (isPy 7) = true
      rw [List.all_eq_true]
      intro d hd
      obtain ⟨c, _, rfl⟩ := List.mem_map.mp hd
      rfl
    rw [show (!eqP (.lst (((c :: r).filter fun c => !isFig c).map fun c => D.str [c])) (.lst [])) = !(c :: r).all isFig from congrArg (!·) (odd_fig (c :: r))]
    have nb := numB_cons c r
    generalize hall : (c :: r).all isFig = al at nb ⊢
    cases al with
    | false =>
      walk_at "ws"
      rw [nb]
      rfl
    | true =>
      walk_at "ws"
      refine i_eqP rfl rfl ?_
      rw [show eqP (.str (c :: r)) (.str [48]) = ((c :: r) == [48]) from rfl]
      refine wp_eq (a := (c :: r) == [48]) rfl ?_
      refine ⟨fun h => ?_, fun h => ?_⟩
      · walk_at "ws"
        rw [nb, h]
        rfl
      · walk_at "ws"
        refine wp_eq (ix0_str c r) ?_
        walk_at "ws"
        refine i_neP rfl rfl ?_
        have e1 : (!eqP (.str [c]) (.str [48])) = (c != 48) := by
          show (!([c] == [48])) = _
          rw [Bool.eq_iff_iff]
          simp
        rw [e1]
        walk_at "ws"
        rw [nb, h]
        rfl
end Dl

set_option maxHeartbeats 1000000
namespace Dl
open PySem PySem.W L2
local macro_rules | `(tactic| walk_at "ws1") => `(tactic| first | (with_reducible first | refine w_seq ?_ | refine w_set ?_ | refine w_setO ?_ | refine w_ifs ?_ | refine w_rets ?_ | refine w_expr ?_ | refine w_asg ?_ | refine w_end ?_ | refine w_setI ?_ | refine z_nx ?_ | refine z_rt ?_ | refine w_ret ?_ | refine w_m2 ?_ | refine w_m1 ?_ | refine w_scons ?_ | refine w_snil ?_ | refine w_bi ?_ | refine w_lst ?_ | refine w_tup ?_ | refine w_if ?_ | refine w_B ?_ | refine isB_bl ?_ | refine w_tru ?_ | refine w_notT ?_ | refine w_andT ?_ | refine w_orT ?_ | refine i_bin ?_ | refine i_ord ?_ | refine i_add ?_ | refine i_sub ?_ | refine i_gt ?_ | refine i_ge ?_ | refine i_lt ?_ | refine i_le ?_ | refine i_int ?_ | refine i_intb ?_ | refine i_abs ?_ | refine i_len ?_ | refine w_app ?_ | refine w_anil ?_ | refine w_aconsE ?_ | refine w_call ?_ | refine w_new ?_ | refine w_rng ?_ | refine w_for ?_ | refine w_dct0 ?_ | refine w_meth ?_ | refine w_lam ?_ | refine l_rt ?_ | refine l_nx ?_ | refine w_lc ?_ | refine lc_nil ?_ | refine lc_cons ?_ | refine w_par2 ?_ | refine i_neg ?_ | refine w_andV ?_ | refine w_cm ?_ | refine lp_nx ?_ | refine lp_ct ?_ | refine lp_bk ?_ | refine lp_rt ?_ | refine w_lnil ?_ | refine t_n ?_ | refine w_M1 ?_ | refine w_it ?_ | refine w_raise ?_ | refine w_chn ?_ | refine w_sl ?_ | refine w_nop ?_ | refine w_part ?_ | refine w_pkR ?_ | refine w_setF ?_ | refine w_aconsS ?_ | refine w_orV ?_) | ((with_reducible apply w_newL); focus exact rfl) | ((with_reducible apply w_var); focus exact rfl) | ((with_reducible apply w_vfP); focus exact rfl) | ((with_reducible apply w_vfO); focus exact rfl) | ((with_reducible apply w_ixO); focus exact rfl) | ((with_reducible apply w_mt1); focus exact rfl) | ((with_reducible apply w_aconsO); focus exact rfl) | ((with_reducible apply w_frz); focus exact rfl) | refine ⟨_, _, _, rfl, rfl, rfl, ?_⟩ | refine ⟨_, rfl, ?_⟩ | refine ⟨rfl, ?_⟩ | refine ⟨szl rfl, ?_⟩ | refine ⟨szt rfl, ?_⟩ | refine ⟨_, _, _, _, rfl, rfl, ?_⟩ | refine ⟨_, _, _, rfl, rfl, ?_⟩ | refine ⟨_, _, rfl, ?_⟩ | refine ⟨_, _, _, rfl, ⟨rfl, szt rfl⟩, ?_⟩ | refine ⟨fun _ => ?_, fun hh => Bool.noConfusion hh⟩ | refine ⟨fun hh => Bool.noConfusion hh, fun _ => ?_⟩)
local macro_rules | `(tactic| walk_at "ws") => `(tactic| repeat walk_at "ws1")

open NumText (digitsVal)
open TL (numL)
def lessB (sd : List (List Nat)) : Bool := (sd.getD 0 []).take 1 == [45]
def topW (sd : List (List Nat)) : List Nat := if lessB sd then (sd.getD 0 []).drop 1 else sd.getD 0 []
def badP (sd : List (List Nat)) : Bool := !numB (topW sd) || ((lessB sd && (topW sd == [48])) || (decide (2 < sd.length) || (decide (sd.length = 2) && (!numB (sd.getD 1 []) || (decide (digitsVal (sd.getD 1 []) < 2) || Nat.gcd (digitsVal (topW sd)) (digitsVal (sd.getD 1 [])) != 1)))))
def topI (sd : List (List Nat)) : Int := if lessB sd then -(digitsVal (topW sd) : Nat) else (digitsVal (topW sd) : Nat)
def botI (sd : List (List Nat)) : Int := if sd.length = 2 then (digitsVal (sd.getD 1 []) : Nat) else 1
def xR (k : Int) : Xc := ⟨17, [2, 1], [.int k, .int 0]⟩
def partsR (sd : List (List Nat)) : RF := if badP sd then .exc (xR 0) else .ok (.tup [.int (topI sd), .int (botI sd)], [])
theorem isN_fig (w : List Nat) : isND (figD w) .non = .ok (.bl (!numB w)) := by
  unfold figD
  cases numB w <;> rfl
theorem fig_some {w : List Nat} (h : numB w = true) : figD w = .int (digitsVal w : Nat) := by unfold figD; rw [if_pos h]
theorem ix_s0 (s : List Nat) (r : List (List Nat)) : ixD (.lst ((s :: r).map D.str)) (.int 0) = .ok (.str s) := ix_0
theorem ix_s1 (s b : List Nat) (r : List (List Nat)) : ixD (.lst ((s :: b :: r).map D.str)) (.int 1) = .ok (.str b) := ix_1
theorem take1 (s : List Nat) : slD (.str s) none (some 1) = .ok (.str (s.take 1)) := by
  show R.ok (D.str (cutL s none (some ((1 : Nat) : Int)))) = _
  rw [cut_to]
theorem drop1 (s : List Nat) : slD (.str s) (some 1) none = .ok (.str (s.drop 1)) := by
  show R.ok (D.str (cutL s (some 1) none)) = _
  rw [cut_one]
theorem gcd_ints (m n : Nat) : gGcd [.int m, .int n] = .ok (.int (Nat.gcd m n : Nat)) := by
  show R.ok (D.int ((Nat.gcd (m : Int).natAbs (n : Int).natAbs : Nat) : Int)) = _
  rw [Int.natAbs_natCast, Int.natAbs_natCast]
theorem eq_zero (n : Nat) : eqP (.int n) (.int 0) = decide (n = 0) := by
  show ((n : Int) == 0) = _
  rw [Bool.eq_iff_iff]
  simp
theorem ne_oneI (n : Nat) : (!eqP (.int n) (.int 1)) = (n != 1) := by
  show (!((n : Int) == 1)) = _
  rw [bne, Bool.eq_iff_iff]
  simp
  omega
theorem zero_top {w : List Nat} (h : numB w = true) : decide (digitsVal w = 0) = (w == [48]) := by
  rw [Bool.eq_iff_iff, decide_eq_true_iff, val_zero h, beq_iff_eq]
def botD (sd : List (List Nat)) : D := if sd.length = 2 then figD (sd.getD 1 []) else .int 1
theorem eq_two (n : Nat) : eqP (.int n) (.int 2) = decide (n = 2) := by
  show ((n : Int) == 2) = _
  rw [Bool.eq_iff_iff]
  simp
  omega
theorem bot_non (sd : List (List Nat)) : isND (botD sd) .non = .ok (.bl (decide (sd.length = 2) && !numB (sd.getD 1 []))) := by
  unfold botD
  by_cases h : sd.length = 2
  · rw [if_pos h, isN_fig, decide_eq_true h]; rfl
  · rw [if_neg h, decide_eq_false h]; rfl
theorem parts_ok {w : List Nat} (hw : okT w) (hl : w.length ≤ 600) : g_parts_told [.pu (.str w)] = partsR (TL.spl [47] 0 [] w) := by
  refine wpF_of ?_
  refine w_run rfl ?_
  show wpS (M_parts_told [.pu (.str w), .no, .no, .no, .no]) _ _
  unfold M_parts_told
  have len : ∀ p ∈ TL.spl [47] 0 [] w, p.length ≤ 600 := fun p hp => by
    have := (spl_in 47 w [] p hp).2
    simp only [List.length_nil] at this
    omega
  walk_at "ws"
  refine wp_eq (split_ok hw (by decide)) ?_
  have ne := spl_ne [47] w [] 0
  generalize TL.spl [47] 0 [] w = sd at ne len ⊢
  cases sd with
  | nil => exact absurd rfl ne
  | cons s0 r =>
  have l0 := len s0 (by simp)
  walk_at "ws"
  refine wp_eq (ix_s0 s0 r) ?_
  walk_at "ws"
  refine wp_eq (take1 s0) ?_
  walk_at "ws"
  refine i_eqP rfl rfl ?_
  rw [show eqP (.str (s0.take 1)) (.str [45]) = lessB (s0 :: r) from rfl]
  refine z_nx ?_
  have lt : (topW (s0 :: r)).length ≤ 640 := by
    unfold topW
    split
    · show (s0.drop 1).length ≤ 640
      rw [List.length_drop]; omega
    · show s0.length ≤ 640; omega
  refine w_norm (e' := [.pu (.str w), .pu (.lst ((s0 :: r).map D.str)), .pu (.bl (lessB (s0 :: r))), .no, .no]) rfl ?_
  refine w_seq (w_stm (env' := [.pu (.str w), .pu (.lst ((s0 :: r).map D.str)), .pu (.bl (lessB (s0 :: r))), .pu (figD (topW (s0 :: r))), .no]) ?_ ?_)
  · walk_at "ws"
    refine wp_eq (a := lessB (s0 :: r)) rfl ?_
    refine ⟨fun e => ?_, fun e => ?_⟩
    · walk_at "ws"
      refine wp_eq (ix_s0 s0 r) ?_
      walk_at "ws"
      refine wp_eq (drop1 s0) ?_
      walk_at "ws"
      have tw : topW (s0 :: r) = s0.drop 1 := by unfold topW; rw [if_pos e]; rfl
      rw [tw] at lt ⊢
      refine wpF_eq (figures_ok lt) ?_
      exact ⟨rfl, rfl⟩
    · walk_at "ws"
      refine wp_eq (ix_s0 s0 r) ?_
      walk_at "ws"
      have tw : topW (s0 :: r) = s0 := by unfold topW; rw [if_neg (by rw [e]; decide)]; rfl
      rw [tw] at lt ⊢
      refine wpF_eq (figures_ok lt) ?_
      exact ⟨rfl, rfl⟩
  refine z_nx ?_
  refine w_seq (w_stm (env' := [.pu (.str w), .pu (.lst ((s0 :: r).map D.str)), .pu (.bl (lessB (s0 :: r))), .pu (figD (topW (s0 :: r))), .pu (botD (s0 :: r))]) ?_ ?_)
  · walk_at "ws"
    refine i_eqP rfl rfl ?_
    rw [show eqP (.int ((s0 :: r).map D.str).length) (.int 2) = decide ((s0 :: r).length = 2) from by rw [List.length_map]; exact eq_two _]
    walk_at "ws"
    refine ⟨fun e => ?_, fun e => ?_⟩
    · have e := of_decide_eq_true e
      obtain ⟨b, rfl⟩ : ∃ b, r = [b] := by
        cases r with
        | nil => simp at e
        | cons b r' => cases r' with
          | nil => exact ⟨b, rfl⟩
          | cons c r2 => simp at e
      have lb := len b (by simp)
      walk_at "ws"
      refine wp_eq (ix_s1 s0 b []) ?_
      walk_at "ws"
      refine wpF_eq (figures_ok (show b.length ≤ 640 by omega)) ?_
      exact ⟨rfl, rfl⟩
    · have e := of_decide_eq_false e
      walk_at "ws"
      have : botD (s0 :: r) = .int 1 := by unfold botD; rw [if_neg e]
      rw [this]
      rfl
  refine z_nx ?_
  generalize hsd : s0 :: r = sd at *
  have bad : badP sd = true → partsR sd = .exc (xR 0) := fun h => by unfold partsR; rw [if_pos h]
  walk_at "ws"
  refine wp_eq (isN_fig _) ?_
  walk_at "ws"
  refine ⟨fun h1 => ?_, fun h1 => ?_⟩
  · walk_at "ws"
    exact bad (by unfold badP; rw [h1]; rfl)
  have n1 : numB (topW sd) = true := by simpa using h1
  rw [fig_some n1]
  walk_at "ws"
  refine wp_eq (bot_non sd) ?_
  walk_at "ws"
  refine ⟨fun h2 => ?_, fun h2 => ?_⟩
  · walk_at "ws"
    refine bad ?_
    unfold badP
    simp only [Bool.and_eq_true, decide_eq_true_eq, Bool.not_eq_true'] at h2
    rw [decide_eq_true h2.1, h2.2]
    simp
  walk_at "ws"
  have l2 : decide ((2 : Int) < (sd.map D.str).length) = decide (2 < sd.length) := decide_eq_decide.mpr (by rw [List.length_map]; omega)
  rw [l2]
  refine ⟨fun h3 => ?_, fun h3 => ?_⟩
  · walk_at "ws"
    refine bad ?_
    unfold badP
    rw [h3]
    simp
  walk_at "ws"
  refine wp_eq (a := lessB sd) rfl ?_
  have ret : badP sd = false → partsR sd = .ok (.tup [.int (topI sd), .int (botI sd)], []) := fun h => by unfold partsR; rw [if_neg (by rw [h]; decide)]
  refine ⟨fun h4a => ?_, fun h4a => ?_⟩
  · walk_at "ws"
    refine i_eqP rfl rfl ?_
    rw [eq_zero, zero_top n1]
    walk_at "ws"
    refine ⟨fun h4b => ?_, fun h4b => ?_⟩
    · walk_at "ws"
      refine bad ?_
      unfold badP
      rw [h4a, h4b]
      simp
    have h4 : (lessB sd && (topW sd == [48])) = false := by rw [h4b, Bool.and_false]
    walk_at "ws"
    refine i_eqP rfl rfl ?_
    rw [show eqP (.int (sd.map D.str).length) (.int 2) = decide (sd.length = 2) from by rw [List.length_map]; exact eq_two _]
    walk_at "ws"
    refine ⟨fun h5 => ?_, fun h5 => ?_⟩
    · have h5' := of_decide_eq_true h5
      have nb : numB (sd.getD 1 []) = true := by
        rw [h5] at h2
        simpa using h2
      have eb : botD sd = .int (digitsVal (sd.getD 1 []) : Nat) := by unfold botD; rw [if_pos h5', fig_some nb]
      have ei : botI sd = (digitsVal (sd.getD 1 []) : Nat) := by unfold botI; rw [if_pos h5']
      rw [eb]
      walk_at "ws"
      have c6 : decide (((digitsVal (sd.getD 1 []) : Nat) : Int) < 2) = decide (digitsVal (sd.getD 1 []) < 2) := decide_eq_decide.mpr (by omega)
      rw [c6]
      refine ⟨fun h6 => ?_, fun h6 => ?_⟩
      · walk_at "ws"
        refine bad ?_
        unfold badP
        rw [h5, h6]
        simp
      walk_at "ws"
      refine wp_eq (gcd_ints _ _) ?_
      walk_at "ws"
      refine i_neP rfl rfl ?_
      rw [ne_oneI]
      walk_at "ws"
      refine ⟨fun h7 => ?_, fun h7 => ?_⟩
      · walk_at "ws"
        refine bad ?_
        unfold badP
        rw [h5, h7]
        simp
      · walk_at "ws"
        have hb : badP sd = false := by unfold badP; rw [n1, h4, h3, h5, nb, h6, h7]; rfl
        refine wp_eq (a := lessB sd) rfl ?_
        refine ⟨fun e => ?_, fun e => ?_⟩
        · walk_at "ws"
          rw [ret hb, ei]; unfold topI; rw [if_pos e]
        · walk_at "ws"
          rw [ret hb, ei]; unfold topI; rw [if_neg (by rw [e]; decide)]
    · have h5' := of_decide_eq_false h5
      have eb : botD sd = .int 1 := by unfold botD; rw [if_neg h5']
      have ei : botI sd = 1 := by unfold botI; rw [if_neg h5']
      have hb : badP sd = false := by unfold badP; rw [n1, h4, h3, h5]; rfl
      rw [eb]
      walk_at "ws"
      refine wp_eq (a := lessB sd) rfl ?_
      refine ⟨fun e => ?_, fun e => ?_⟩
      · walk_at "ws"
        rw [ret hb, ei]; unfold topI; rw [if_pos e]
      · walk_at "ws"
        rw [ret hb, ei]; unfold topI; rw [if_neg (by rw [e]; decide)]
  · have h4 : (lessB sd && (topW sd == [48])) = false := by rw [h4a]; rfl
    walk_at "ws"
    refine i_eqP rfl rfl ?_
    rw [show eqP (.int (sd.map D.str).length) (.int 2) = decide (sd.length = 2) from by rw [List.length_map]; exact eq_two _]
    walk_at "ws"
    refine ⟨fun h5 => ?_, fun h5 => ?_⟩
    · have h5' := of_decide_eq_true h5
      have nb : numB (sd.getD 1 []) = true := by
        rw [h5] at h2
        simpa using h2
      have eb : botD sd = .int (digitsVal (sd.getD 1 []) : Nat) := by unfold botD; rw [if_pos h5', fig_some nb]
      have ei : botI sd = (digitsVal (sd.getD 1 []) : Nat) := by unfold botI; rw [if_pos h5']
      rw [eb]
      walk_at "ws"
      have c6 : decide (((digitsVal (sd.getD 1 []) : Nat) : Int) < 2) = decide (digitsVal (sd.getD 1 []) < 2) := decide_eq_decide.mpr (by omega)
      rw [c6]
      refine ⟨fun h6 => ?_, fun h6 => ?_⟩
      · walk_at "ws"
        refine bad ?_
        unfold badP
        rw [h5, h6]
        simp
      walk_at "ws"
      refine wp_eq (gcd_ints _ _) ?_
      walk_at "ws"
      refine i_neP rfl rfl ?_
      rw [ne_oneI]
      walk_at "ws"
      refine ⟨fun h7 => ?_, fun h7 => ?_⟩
      · walk_at "ws"
        refine bad ?_
        unfold badP
        rw [h5, h7]
        simp
      · walk_at "ws"
        have hb : badP sd = false := by unfold badP; rw [n1, h4, h3, h5, nb, h6, h7]; rfl
        refine wp_eq (a := lessB sd) rfl ?_
        refine ⟨fun e => ?_, fun e => ?_⟩
        · walk_at "ws"
          rw [ret hb, ei]; unfold topI; rw [if_pos e]
        · walk_at "ws"
          rw [ret hb, ei]; unfold topI; rw [if_neg (by rw [e]; decide)]
    · have h5' := of_decide_eq_false h5
      have eb : botD sd = .int 1 := by unfold botD; rw [if_neg h5']
      have ei : botI sd = 1 := by unfold botI; rw [if_neg h5']
      have hb : badP sd = false := by unfold badP; rw [n1, h4, h3, h5]; rfl
      rw [eb]
      walk_at "ws"
      refine wp_eq (a := lessB sd) rfl ?_
      refine ⟨fun e => ?_, fun e => ?_⟩
      · walk_at "ws"
        rw [ret hb, ei]; unfold topI; rw [if_pos e]
      · walk_at "ws"
        rw [ret hb, ei]; unfold topI; rw [if_neg (by rw [e]; decide)]
end Dl

set_option maxHeartbeats 1000000
namespace Dl
open PySem PySem.W L2
local macro_rules | `(tactic| walk_at "ws1") => `(tactic| first | (with_reducible first | refine w_seq ?_ | refine w_set ?_ | refine w_setO ?_ | refine w_ifs ?_ | refine w_rets ?_ | refine w_expr ?_ | refine w_asg ?_ | refine w_end ?_ | refine w_setI ?_ | refine z_nx ?_ | refine z_rt ?_ | refine w_ret ?_ | refine w_m2 ?_ | refine w_m1 ?_ | refine w_scons ?_ | refine w_snil ?_ | refine w_bi ?_ | refine w_lst ?_ | refine w_tup ?_ | refine w_if ?_ | refine w_B ?_ | refine isB_bl ?_ | refine w_tru ?_ | refine w_notT ?_ | refine w_andT ?_ | refine w_orT ?_ | refine i_bin ?_ | refine i_ord ?_ | refine i_add ?_ | refine i_sub ?_ | refine i_gt ?_ | refine i_ge ?_ | refine i_lt ?_ | refine i_le ?_ | refine i_int ?_ | refine i_intb ?_ | refine i_abs ?_ | refine i_len ?_ | refine w_app ?_ | refine w_anil ?_ | refine w_aconsE ?_ | refine w_call ?_ | refine w_new ?_ | refine w_rng ?_ | refine w_for ?_ | refine w_dct0 ?_ | refine w_meth ?_ | refine w_lam ?_ | refine l_rt ?_ | refine l_nx ?_ | refine w_lc ?_ | refine lc_nil ?_ | refine lc_cons ?_ | refine w_par2 ?_ | refine i_neg ?_ | refine w_andV ?_ | refine w_cm ?_ | refine lp_nx ?_ | refine lp_ct ?_ | refine lp_bk ?_ | refine lp_rt ?_ | refine w_lnil ?_ | refine t_n ?_ | refine w_M1 ?_ | refine w_it ?_ | refine w_raise ?_ | refine w_chn ?_ | refine w_sl ?_ | refine w_nop ?_ | refine w_part ?_ | refine w_pkR ?_ | refine w_setF ?_ | refine w_aconsS ?_ | refine w_orV ?_) | ((with_reducible apply w_newL); focus exact rfl) | ((with_reducible apply w_var); focus exact rfl) | ((with_reducible apply w_vfP); focus exact rfl) | ((with_reducible apply w_vfO); focus exact rfl) | ((with_reducible apply w_ixO); focus exact rfl) | ((with_reducible apply w_mt1); focus exact rfl) | ((with_reducible apply w_aconsO); focus exact rfl) | ((with_reducible apply w_frz); focus exact rfl) | refine ⟨_, _, _, rfl, rfl, rfl, ?_⟩ | refine ⟨_, rfl, ?_⟩ | refine ⟨rfl, ?_⟩ | refine ⟨szl rfl, ?_⟩ | refine ⟨szt rfl, ?_⟩ | refine ⟨_, _, _, _, rfl, rfl, ?_⟩ | refine ⟨_, _, _, rfl, rfl, ?_⟩ | refine ⟨_, _, rfl, ?_⟩ | refine ⟨_, _, _, rfl, ⟨rfl, szt rfl⟩, ?_⟩ | refine ⟨fun _ => ?_, fun hh => Bool.noConfusion hh⟩ | refine ⟨fun hh => Bool.noConfusion hh, fun _ => ?_⟩)
local macro_rules | `(tactic| walk_at "ws") => `(tactic| repeat walk_at "ws1")

open NumText (digitsVal)
open TL (numL)
def wordS (t : List Nat) : List (List Nat) := TL.spl [32] 0 [] t
def sideS (t : List Nat) : List (List Nat) := TL.spl [47] 0 [] ((wordS t).getD 0 [])
def wrongD (t : List Nat) : D := if badP (sideS t) then .int 0 else if 1 < (wordS t).length then .int 1 else .non
theorem top_len {sd : List (List Nat)} {n : Nat} (h : ∀ p ∈ sd, p.length ≤ n) : (topW sd).length ≤ n := by
  have : (sd.getD 0 []).length ≤ n := by
    cases sd with
    | nil => exact Nat.zero_le _
    | cons s r => exact h s (by simp)
  unfold topW
  split
  · rw [List.length_drop]; omega
  · exact this
theorem side_len {t : List Nat} : ∀ p ∈ sideS t, p.length ≤ ((wordS t).getD 0 []).length := fun p hp => by
  have := (spl_in 47 _ [] p hp).2
  simpa using this
theorem word_ok {t : List Nat} (h : okT t) : okT ((wordS t).getD 0 []) ∧ ((wordS t).getD 0 []).length ≤ t.length := by
  have ne := spl_ne [32] t [] 0
  have h1 := spl_ok (s := 32) h
  have h2 := spl_in 32 t []
  unfold wordS
  cases q : TL.spl [32] 0 [] t with
  | nil => exact absurd q ne
  | cons w r =>
    rw [q] at h1 h2
    have := (h2 w (by simp)).2
    exact ⟨h1 w (by simp), by simpa using this⟩
theorem val_650 {w : List Nat} (h : numB w = true) (hl : w.length ≤ 640) : (digitsVal w : Int).natAbs < 10 ^ 650 := by
  rw [Int.natAbs_natCast]
  exact Nat.lt_of_lt_of_le (val_lt w (num_all h).1) (Nat.pow_le_pow_right (by decide) (by omega))
theorem less_zero {sd : List (List Nat)} (hn : numB (topW sd) = true) : ((sd.getD 0 []) == [45, 48]) = (lessB sd && (topW sd == [48])) := by
  generalize hs : sd.getD 0 [] = s
  have e1 : lessB sd = (s.take 1 == [45]) := by unfold lessB; rw [hs]
  have e2 : topW sd = if lessB sd then s.drop 1 else s := by unfold topW; rw [hs]
  rw [e2, e1]
  cases s with
  | nil => rfl
  | cons c r =>
    show ((c :: r) == [45, 48]) = (([c] == [45]) && _)
    by_cases hc : c = 45
    · subst hc
      show ((45 :: r) == [45, 48]) = (true && (r == [48]))
      rw [Bool.eq_iff_iff]
      simp
    · rw [Bool.eq_iff_iff]
      simp [hc]
theorem law_wrong_ok {t : List Nat} (ht : okT t) (hl : t.length ≤ 600) : g__law_wrong [.pu (.str t)] = .ok (wrongD t, []) := by
  refine wpF_of ?_
  refine w_run rfl ?_
  show wpS (M__law_wrong [.pu (.str t), .no, .no, .no]) _ _
  unfold M__law_wrong
  obtain ⟨w0, w1⟩ := word_ok ht
  have lens : ∀ p ∈ sideS t, p.length ≤ 600 := fun p hp => by have := side_len p hp; omega
  have lt := top_len lens
  have ne := spl_ne [47] ((wordS t).getD 0 []) [] 0
  walk_at "ws"
  refine wp_eq (split_ok ht (by decide)) ?_
  walk_at "ws"
  refine wp_eq (a := .str ((wordS t).getD 0 [])) ?_ ?_
  · show ixD (.lst ((wordS t).map D.str)) (.int 0) = _
    have ne2 := spl_ne [32] t [] 0
    cases q : wordS t with
    | nil => exact absurd q ne2
    | cons w r => exact ix_0
  walk_at "ws"
  refine wp_eq (split_ok w0 (by decide)) ?_
  have hwd : wrongD t = if badP (sideS t) then .int 0 else if 1 < (wordS t).length then .int 1 else .non := rfl
  have hsd : TL.spl [47] 0 [] ((wordS t).getD 0 []) = sideS t := rfl
  have hwo : TL.spl [32] 0 [] t = wordS t := rfl
  rw [hsd] at ne ⊢
  rw [hwo]
  generalize sideS t = sd at *
  generalize wordS t = wl at *
  cases sd with
  | nil => exact absurd rfl ne
  | cons s0 r =>
  refine z_nx ?_
  refine w_norm (e' := [.pu (.str t), .pu (.lst (wl.map D.str)), .pu (.lst ((s0 :: r).map D.str)), .no]) rfl ?_
  refine w_seq (w_stm (env' := [.pu (.str t), .pu (.lst (wl.map D.str)), .pu (.lst ((s0 :: r).map D.str)), .pu (.str (topW (s0 :: r)))]) ?_ ?_)
  · walk_at "ws"
    refine wp_eq (ix_s0 s0 r) ?_
    walk_at "ws"
    refine wp_eq (take1 s0) ?_
    walk_at "ws"
    refine i_eqP rfl rfl ?_
    rw [show eqP (.str (s0.take 1)) (.str [45]) = lessB (s0 :: r) from rfl]
    walk_at "ws"
    refine ⟨fun e => ?_, fun e => ?_⟩
    · walk_at "ws"
      refine wp_eq (ix_s0 s0 r) ?_
      walk_at "ws"
      refine wp_eq (drop1 s0) ?_
      have tw : topW (s0 :: r) = s0.drop 1 := by unfold topW; rw [if_pos e]; rfl
      rw [tw]
      exact ⟨rfl, rfl⟩
    · walk_at "ws"
      refine wp_eq (ix_s0 s0 r) ?_
      have tw : topW (s0 :: r) = s0 := by unfold topW; rw [if_neg (by rw [e]; decide)]; rfl
      rw [tw]
      exact ⟨rfl, rfl⟩
  refine z_nx ?_
  have ix0 : ixD (.lst ((s0 :: r).map D.str)) (.int 0) = .ok (.str ((s0 :: r).getD 0 [])) := ix_s0 s0 r
  have ix1 : (s0 :: r).length = 2 → ixD (.lst ((s0 :: r).map D.str)) (.int 1) = .ok (.str ((s0 :: r).getD 1 [])) := fun e => by
    cases r with
    | nil => simp at e
    | cons b r' => exact ix_s1 s0 b r'
  have lb : ((s0 :: r).getD 1 []).length ≤ 600 := by
    cases r with
    | nil => exact Nat.zero_le _
    | cons b r' => exact lens b (by simp)
  generalize s0 :: r = sd at *
  have bad : badP sd = true → wrongD t = .int 0 := fun h => by rw [hwd, if_pos h]
  have good : badP sd = false → wrongD t = if 1 < wl.length then .int 1 else .non := fun h => by rw [hwd, if_neg (by rw [h]; decide)]
  walk_at "ws"
  refine wpF_eq (is_number_ok (by omega)) ?_
  walk_at "ws"
  refine wp_eq (a := numB (topW sd)) rfl ?_
  walk_at "ws"
  refine ⟨fun h1 => ?_, fun h1 => ?_⟩
  · walk_at "ws"
    rw [bad (by unfold badP; rw [h1]; rfl)]
  have n1 : numB (topW sd) = true := by simpa using h1
  walk_at "ws"
  refine wp_eq ix0 ?_
  walk_at "ws"
  refine i_eqP rfl rfl ?_
  rw [show eqP (.str (sd.getD 0 [])) (.str [45, 48]) = ((sd.getD 0 []) == [45, 48]) from rfl, less_zero n1]
  walk_at "ws"
  refine ⟨fun h4 => ?_, fun h4 => ?_⟩
  · walk_at "ws"
    rw [bad (by unfold badP; rw [h4]; simp)]
  walk_at "ws"
  have l2 : decide ((2 : Int) < (sd.map D.str).length) = decide (2 < sd.length) := decide_eq_decide.mpr (by rw [List.length_map]; omega)
  rw [l2]
  refine ⟨fun h3 => ?_, fun h3 => ?_⟩
  · walk_at "ws"
    rw [bad (by unfold badP; rw [h3]; simp)]
  walk_at "ws"
  have l1 : decide ((1 : Int) < (wl.map D.str).length) = decide (1 < wl.length) := decide_eq_decide.mpr (by rw [List.length_map]; omega)
  refine i_eqP rfl rfl ?_
  rw [show eqP (.int (sd.map D.str).length) (.int 2) = decide (sd.length = 2) from by rw [List.length_map]; exact eq_two _]
  walk_at "ws"
  refine ⟨fun h5 => ?_, fun h5 => ?_⟩
  · have h5' := of_decide_eq_true h5
    walk_at "ws"
    refine wp_eq (ix1 h5') ?_
    walk_at "ws"
    refine wpF_eq (is_number_ok (by omega)) ?_
    walk_at "ws"
    refine wp_eq (a := numB (sd.getD 1 [])) rfl ?_
    walk_at "ws"
    refine ⟨fun h6 => ?_, fun h6 => ?_⟩
    · walk_at "ws"
      rw [bad (by unfold badP; rw [h5, h6]; simp)]
    have nb : numB (sd.getD 1 []) = true := by simpa using h6
    walk_at "ws"
    refine wp_eq (ix1 h5') ?_
    walk_at "ws"
    refine wp_eq (int_num nb (by omega)) ?_
    walk_at "ws"
    have c6 : decide (((digitsVal (sd.getD 1 []) : Nat) : Int) < 2) = decide (digitsVal (sd.getD 1 []) < 2) := decide_eq_decide.mpr (by omega)
    rw [c6]
    refine ⟨fun h6 => ?_, fun h6 => ?_⟩
    · walk_at "ws"
      rw [bad (by unfold badP; rw [h5, h6]; simp)]
    walk_at "ws"
    refine wp_eq (int_num n1 (by omega)) ?_
    walk_at "ws"
    refine wp_eq (ix1 h5') ?_
    walk_at "ws"
    refine wp_eq (int_num nb (by omega)) ?_
    walk_at "ws"
    refine wpF_eq (share_ok (val_650 nb (by omega))) ?_
    walk_at "ws"
    refine i_neP rfl rfl ?_
    rw [show Wp.gcdI ((digitsVal (topW sd) : Nat) : Int) ((digitsVal (sd.getD 1 []) : Nat) : Int) = ((Nat.gcd (digitsVal (topW sd)) (digitsVal (sd.getD 1 [])) : Nat) : Int) from by unfold Wp.gcdI; rw [Int.natAbs_natCast, Int.natAbs_natCast], ne_oneI]
    walk_at "ws"
    refine ⟨fun h7 => ?_, fun h7 => ?_⟩
    · walk_at "ws"
      rw [bad (by unfold badP; rw [h5, h7]; simp)]
    · have hb : badP sd = false := by unfold badP; rw [n1, h4, h3, h5, nb, h6, h7]; rfl
      walk_at "ws"
      rw [l1]
      refine ⟨fun h8 => ?_, fun h8 => ?_⟩
      · walk_at "ws"
        rw [good hb, if_pos (of_decide_eq_true h8)]
      · walk_at "ws"
        rw [good hb, if_neg (of_decide_eq_false h8)]
  · have hb : badP sd = false := by unfold badP; rw [n1, h4, h3, h5]; rfl
    walk_at "ws"
    rw [l1]
    refine ⟨fun h8 => ?_, fun h8 => ?_⟩
    · walk_at "ws"
      rw [good hb, if_pos (of_decide_eq_true h8)]
    · walk_at "ws"
      rw [good hb, if_neg (of_decide_eq_false h8)]
end Dl

set_option maxHeartbeats 1000000
namespace Dl
open PySem PySem.W L2
local macro_rules | `(tactic| walk_at "ws1") => `(tactic| first | (with_reducible first | refine w_seq ?_ | refine w_set ?_ | refine w_setO ?_ | refine w_ifs ?_ | refine w_rets ?_ | refine w_expr ?_ | refine w_asg ?_ | refine w_end ?_ | refine w_setI ?_ | refine z_nx ?_ | refine z_rt ?_ | refine w_ret ?_ | refine w_m2 ?_ | refine w_m1 ?_ | refine w_scons ?_ | refine w_snil ?_ | refine w_bi ?_ | refine w_lst ?_ | refine w_tup ?_ | refine w_if ?_ | refine w_B ?_ | refine isB_bl ?_ | refine w_tru ?_ | refine w_notT ?_ | refine w_andT ?_ | refine w_orT ?_ | refine i_bin ?_ | refine i_ord ?_ | refine i_add ?_ | refine i_sub ?_ | refine i_gt ?_ | refine i_ge ?_ | refine i_lt ?_ | refine i_le ?_ | refine i_int ?_ | refine i_intb ?_ | refine i_abs ?_ | refine i_len ?_ | refine w_app ?_ | refine w_anil ?_ | refine w_aconsE ?_ | refine w_call ?_ | refine w_new ?_ | refine w_rng ?_ | refine w_for ?_ | refine w_dct0 ?_ | refine w_meth ?_ | refine w_lam ?_ | refine l_rt ?_ | refine l_nx ?_ | refine w_lc ?_ | refine lc_nil ?_ | refine lc_cons ?_ | refine w_par2 ?_ | refine i_neg ?_ | refine w_andV ?_ | refine w_cm ?_ | refine lp_nx ?_ | refine lp_ct ?_ | refine lp_bk ?_ | refine lp_rt ?_ | refine w_lnil ?_ | refine t_n ?_ | refine w_M1 ?_ | refine w_it ?_ | refine w_raise ?_ | refine w_chn ?_ | refine w_sl ?_ | refine w_nop ?_ | refine w_part ?_ | refine w_pkR ?_ | refine w_setF ?_ | refine w_aconsS ?_ | refine w_orV ?_) | ((with_reducible apply w_newL); focus exact rfl) | ((with_reducible apply w_var); focus exact rfl) | ((with_reducible apply w_vfP); focus exact rfl) | ((with_reducible apply w_vfO); focus exact rfl) | ((with_reducible apply w_ixO); focus exact rfl) | ((with_reducible apply w_mt1); focus exact rfl) | ((with_reducible apply w_aconsO); focus exact rfl) | ((with_reducible apply w_frz); focus exact rfl) | refine ⟨_, _, _, rfl, rfl, rfl, ?_⟩ | refine ⟨_, rfl, ?_⟩ | refine ⟨rfl, ?_⟩ | refine ⟨szl rfl, ?_⟩ | refine ⟨szt rfl, ?_⟩ | refine ⟨_, _, _, _, rfl, rfl, ?_⟩ | refine ⟨_, _, _, rfl, rfl, ?_⟩ | refine ⟨_, _, rfl, ?_⟩ | refine ⟨_, _, _, rfl, ⟨rfl, szt rfl⟩, ?_⟩ | refine ⟨fun _ => ?_, fun hh => Bool.noConfusion hh⟩ | refine ⟨fun hh => Bool.noConfusion hh, fun _ => ?_⟩)
local macro_rules | `(tactic| walk_at "ws") => `(tactic| repeat walk_at "ws1")

open NumText (digitsVal)
open TL (numL)
open Wp (lowT lowB partI gcdI)
def ratD (a b : Int) : D := .ins 31 [13, 14] [.int a, .int b]
theorem eq_zeroI (i : Int) : eqP (.int i) (.int 0) = decide (i = 0) := by
  show (i == 0) = _
  rw [Bool.eq_iff_iff]
  simp
theorem div_part {a b : Int} (h0 : b ≠ 0) (hb : b.natAbs < 2 ^ 8000) : divOk (partI a b) = true := by
  unfold divOk
  have hn := Wp.partI_ne (t := a) h0
  have hl : (partI a b).natAbs ≤ b.natAbs := by
    have : (partI a b).natAbs = Nat.gcd a.natAbs b.natAbs := by unfold partI gcdI; split <;> simp
    rw [this]
    exact Nat.gcd_le_right _ (by omega)
  rw [decide_eq_true hn, decide_eq_true (Nat.lt_of_le_of_lt hl hb)]
  rfl
theorem fdivQ {a b : Int} {Q : D → Prop} {X : Xc → Prop} (h : divOk b = true) (q : Q (.int (a.fdiv b))) : wp (fdivD (.int a) (.int b)) Q X := by
  show wp (if divOk b then R.ok (D.int (a.fdiv b)) else .bad) Q X
  rw [if_pos h]
  exact wp_o.mpr q
theorem gcdQ (a b : Int) : gGcd [.int a, .int b] = .ok (.int (gcdI a b)) := rfl
theorem is_int (a : Int) : g_is_integer [.pu (.int a)] = .ok (.bl true, []) := by kernel_rfl
theorem rinit_ok {a b : Int} (h0 : b ≠ 0) (hb : b.natAbs < 2 ^ 8000) : g_Ratio___init__ [.ow (.ins 31 [] []), .pu (.int a), .pu (.int b)] = .ok (.non, [ratD (lowT a b) (lowB a b)]) := by
  refine wpF_of ?_
  refine w_run rfl ?_
  show wpS (M_Ratio___init__ [.pa 0 (.ins 31 [] []), .pu (.int a), .pu (.int b), .no]) _ _
  unfold M_Ratio___init__
  have dv := div_part (a := a) h0 hb
  walk_at "ws"
  refine wpF_eq (is_int a) ?_
  walk_at "ws"
  refine wp_eq (a := true) rfl ?_
  walk_at "ws"
  refine wpF_eq (is_int b) ?_
  walk_at "ws"
  refine wp_eq (a := true) rfl ?_
  walk_at "ws"
  refine i_eqP rfl rfl ?_
  rw [eq_zeroI, decide_eq_false h0]
  refine isB_bl ⟨fun h => (by cases h), fun _ => ?_⟩
  refine w_end ?_
  refine z_nx ?_
  refine w_seq (w_stm (env' := [.pa 0 (.ins 31 [] []), .pu (.int a), .pu (.int b), .pu (.int (partI a b))]) ?_ ?_)
  · walk_at "ws"
    refine ⟨fun h => ?_, fun h => ?_⟩
    · walk_at "ws"
      refine wp_eq (gcdQ a b) ?_
      unfold partI
      rw [if_pos (of_decide_eq_true h)]
      exact ⟨rfl, rfl⟩
    · walk_at "ws"
      refine wp_eq (gcdQ a b) ?_
      walk_at "ws"
      unfold partI
      rw [if_neg (of_decide_eq_false h)]
      rfl
  refine z_nx ?_
  walk_at "ws"
  refine fdivQ dv ?_
  walk_at "ws"
  refine fdivQ dv ?_
  walk_at "ws"
  rfl
theorem low_cop1 {a b : Int} (h0 : 0 < b) (hg : Nat.gcd a.natAbs b.natAbs = 1) : lowT a b = a ∧ lowB a b = b := by
  have hp : partI a b = 1 := by
    unfold partI gcdI
    rw [if_pos h0, hg]
    rfl
  unfold lowT lowB
  rw [hp]
  exact ⟨Int.fdiv_one _, Int.fdiv_one _⟩
theorem good_of {sd : List (List Nat)} (h : badP sd = false) : numB (topW sd) = true ∧ (lessB sd && (topW sd == [48])) = false ∧ sd.length ≤ 2 ∧ (sd.length = 2 → numB (sd.getD 1 []) = true ∧ 2 ≤ digitsVal (sd.getD 1 []) ∧ Nat.gcd (digitsVal (topW sd)) (digitsVal (sd.getD 1 [])) = 1) := by
  unfold badP at h
  simp only [Bool.or_eq_false_iff, Bool.not_eq_false', decide_eq_false_iff_not] at h
  obtain ⟨h1, h2, h3, h4⟩ := h
  refine ⟨h1, h2, by omega, fun e => ?_⟩
  rw [decide_eq_true e, Bool.true_and] at h4
  simp only [Bool.or_eq_false_iff, Bool.not_eq_false', decide_eq_false_iff_not, bne_eq_false_iff_eq] at h4
  exact ⟨h4.1, by omega, h4.2.2⟩
theorem topI_abs (sd : List (List Nat)) : (topI sd).natAbs = digitsVal (topW sd) := by
  unfold topI
  split
  · rw [Int.natAbs_neg, Int.natAbs_natCast]
  · rw [Int.natAbs_natCast]
theorem bot_good {sd : List (List Nat)} (h : badP sd = false) (hl : ∀ p ∈ sd, p.length ≤ 600) : 0 < botI sd ∧ Nat.gcd (topI sd).natAbs (botI sd).natAbs = 1 ∧ (botI sd).natAbs < 10 ^ 600 := by
  obtain ⟨h1, h2, h3, h4⟩ := good_of h
  rw [topI_abs]
  unfold botI
  by_cases e : sd.length = 2
  · rw [if_pos e, Int.natAbs_natCast]
    obtain ⟨a, b, c⟩ := h4 e
    refine ⟨by omega, c, ?_⟩
    have : (sd.getD 1 []).length ≤ 600 := by
      rw [List.getD_eq_getElem?_getD, List.getElem?_eq_getElem (by omega)]
      exact hl _ (List.getElem_mem _)
    exact Nat.lt_of_lt_of_le (val_lt _ (num_all a).1) (Nat.pow_le_pow_right (by decide) this)
  · rw [if_neg e]
    exact ⟨by decide, Nat.gcd_one_right _, by show 1 < 10 ^ 600; decide +kernel⟩
def readR (t : List Nat) : RF := if badP (sideS t) then .exc (xR 0) else if 1 < (wordS t).length then .exc (xR 1) else .ok (ratD (topI (sideS t)) (botI (sideS t)), [])
theorem read_ok {t : List Nat} (ht : okT t) (hl : t.length ≤ 600) : g_Ratio_read [.pu (.fn 131), .pu (.str t)] = readR t := by
  refine wpF_of ?_
  refine w_run rfl ?_
  show wpS (M_Ratio_read [.pu (.fn 131), .pu (.str t), .no, .no, .no]) _ _
  unfold M_Ratio_read
  obtain ⟨w0, w1⟩ := word_ok ht
  have lens : ∀ p ∈ sideS t, p.length ≤ 600 := fun p hp => by have := side_len p hp; omega
  walk_at "ws"
  refine wp_eq (a := .bl true) rfl ?_
  refine wp_eq (a := true) rfl ?_
  walk_at "ws"
  refine wp_eq (split_ok ht (by decide)) ?_
  walk_at "ws"
  refine wp_eq (a := .str ((wordS t).getD 0 [])) ?_ ?_
  · show ixD (.lst ((wordS t).map D.str)) (.int 0) = _
    have ne2 := spl_ne [32] t [] 0
    cases q : wordS t with
    | nil => exact absurd q ne2
    | cons w r => exact ix_0
  walk_at "ws"
  have hp : g_parts_told [.pu (.str ((wordS t).getD 0 []))] = partsR (sideS t) := parts_ok w0 (by omega)
  cases hb : badP (sideS t) with
  | true =>
    refine wpF_exc (x := xR 0) (by rw [hp]; unfold partsR; rw [if_pos hb]) ?_
    unfold readR
    rw [if_pos hb]
  | false =>
    obtain ⟨b1, b2, b3⟩ := bot_good hb lens
    refine wpF_eq (a := .tup [.int (topI (sideS t)), .int (botI (sideS t))]) (o := []) (by rw [hp]; unfold partsR; rw [if_neg (by rw [hb]; decide)]) ?_
    refine wp_eq (a := [.pu (.fn 131), .pu (.str t), .pu (.lst ((wordS t).map D.str)), .pu (.int (topI (sideS t))), .pu (.int (botI (sideS t)))]) rfl ?_
    walk_at "ws"
    have l1 : decide ((1 : Int) < ((wordS t).map D.str).length) = decide (1 < (wordS t).length) := decide_eq_decide.mpr (by rw [List.length_map]; omega)
    rw [l1]
    refine ⟨fun h => ?_, fun h => ?_⟩
    · walk_at "ws"
      unfold readR
      rw [if_neg (by rw [hb]; decide), if_pos (of_decide_eq_true h)]
      rfl
    · walk_at "ws"
      refine wpF_eq (rinit_ok (by omega) (Nat.lt_trans b3 (by decide +kernel))) ⟨rfl, _, _, rfl, ?_⟩
      rw [(low_cop1 b1 b2).1, (low_cop1 b1 b2).2]
      walk_at "ws"
      unfold readR
      rw [if_neg (by rw [hb]; decide), if_neg (of_decide_eq_false h)]
end Dl

set_option maxHeartbeats 1000000
namespace Dl
open PySem PySem.W L2
local macro_rules | `(tactic| walk_at "ws1") => `(tactic| first | (with_reducible first | refine w_seq ?_ | refine w_set ?_ | refine w_setO ?_ | refine w_ifs ?_ | refine w_rets ?_ | refine w_expr ?_ | refine w_asg ?_ | refine w_end ?_ | refine w_setI ?_ | refine z_nx ?_ | refine z_rt ?_ | refine w_ret ?_ | refine w_m2 ?_ | refine w_m1 ?_ | refine w_scons ?_ | refine w_snil ?_ | refine w_bi ?_ | refine w_lst ?_ | refine w_tup ?_ | refine w_if ?_ | refine w_B ?_ | refine isB_bl ?_ | refine w_tru ?_ | refine w_notT ?_ | refine w_andT ?_ | refine w_orT ?_ | refine i_bin ?_ | refine i_ord ?_ | refine i_add ?_ | refine i_sub ?_ | refine i_gt ?_ | refine i_ge ?_ | refine i_lt ?_ | refine i_le ?_ | refine i_int ?_ | refine i_intb ?_ | refine i_abs ?_ | refine i_len ?_ | refine w_app ?_ | refine w_anil ?_ | refine w_aconsE ?_ | refine w_call ?_ | refine w_new ?_ | refine w_rng ?_ | refine w_for ?_ | refine w_dct0 ?_ | refine w_meth ?_ | refine w_lam ?_ | refine l_rt ?_ | refine l_nx ?_ | refine w_lc ?_ | refine lc_nil ?_ | refine lc_cons ?_ | refine w_par2 ?_ | refine i_neg ?_ | refine w_andV ?_ | refine w_cm ?_ | refine lp_nx ?_ | refine lp_ct ?_ | refine lp_bk ?_ | refine lp_rt ?_ | refine w_lnil ?_ | refine t_n ?_ | refine w_M1 ?_ | refine w_it ?_ | refine w_raise ?_ | refine w_chn ?_ | refine w_sl ?_ | refine w_nop ?_ | refine w_part ?_ | refine w_pkR ?_ | refine w_setF ?_ | refine w_aconsS ?_ | refine w_orV ?_) | ((with_reducible apply w_newL); focus exact rfl) | ((with_reducible apply w_var); focus exact rfl) | ((with_reducible apply w_vfP); focus exact rfl) | ((with_reducible apply w_vfO); focus exact rfl) | ((with_reducible apply w_ixO); focus exact rfl) | ((with_reducible apply w_mt1); focus exact rfl) | ((with_reducible apply w_aconsO); focus exact rfl) | ((with_reducible apply w_frz); focus exact rfl) | refine ⟨_, _, _, rfl, rfl, rfl, ?_⟩ | refine ⟨_, rfl, ?_⟩ | refine ⟨rfl, ?_⟩ | refine ⟨szl rfl, ?_⟩ | refine ⟨szt rfl, ?_⟩ | refine ⟨_, _, _, _, rfl, rfl, ?_⟩ | refine ⟨_, _, _, rfl, rfl, ?_⟩ | refine ⟨_, _, rfl, ?_⟩ | refine ⟨_, _, _, rfl, ⟨rfl, szt rfl⟩, ?_⟩ | refine ⟨fun _ => ?_, fun hh => Bool.noConfusion hh⟩ | refine ⟨fun hh => Bool.noConfusion hh, fun _ => ?_⟩)
local macro_rules | `(tactic| walk_at "ws") => `(tactic| repeat walk_at "ws1")

open NumText (digitsVal)
open TL (numL)
open Wp (lowT lowB partI gcdI)
def lineT (T B : Int) : List Nat := if B = 1 then intT T else intT T ++ 47 :: intT B
theorem intT_len {i : Int} (h : i.natAbs < 10 ^ 550) : (intT i).length ≤ 551 ∧ ∀ c ∈ intT i, c = 45 ∨ (48 ≤ c ∧ c ≤ 57) := by
  unfold intT
  split
  · rename_i h0
    have := TL.numL_len (k := 550) (n := i.toNat) (by decide) (by rw [show i.toNat = i.natAbs by omega]; exact h)
    exact ⟨by omega, fun c hc => .inr (TL.numL_digits _ c hc)⟩
  · have := TL.numL_len (k := 550) (n := i.natAbs) (by decide) h
    refine ⟨by simp only [List.length_cons]; omega, fun c hc => ?_⟩
    rcases List.mem_cons.mp hc with rfl | hc
    · exact .inl rfl
    · exact .inr (TL.numL_digits _ c hc)
theorem fs_nil {acc : List Nat} {env : Ev} {Q : D → Ev → Prop} {X : Xc → Prop} (h : Q (.str acc) env) : wpE (mFs [] acc env) Q X := wpE_o.mpr h
theorem fs_cons {m : M D} {ms : List (M D)} {acc : List Nat} {env : Ev} {Q : D → Ev → Prop} {X : Xc → Prop} (h : wpE (m env) (fun d e => ∃ s, d = .str s ∧ acc.length + s.length ≤ sizeLine ∧ wpE (mFs ms (acc ++ s) e) Q X) X) : wpE (mFs (m :: ms) acc env) Q X := by
  refine w_bind (wpE_mono h (fun d e h => ?_) fun _ h => h)
  obtain ⟨s, rfl, hl, h⟩ := h
  show wpE ((if acc.length + s.length ≤ sizeLine then mFs ms (acc ++ s) else fun _ => .bad) e) Q X
  rw [if_pos hl]
  exact h
theorem eq_oneI (i : Int) : eqP (.int i) (.int 1) = decide (i = 1) := by
  show (i == 1) = _
  rw [Bool.eq_iff_iff]
  simp
theorem rstr_ok {T B : Int} (hT : T.natAbs < 10 ^ 550) (hB : B.natAbs < 10 ^ 550) : g_Ratio___str__ [.pu (ratD T B)] = .ok (.str (lineT T B), []) := by
  refine wpF_of ?_
  refine w_run rfl ?_
  show wpS (M_Ratio___str__ [.pu (ratD T B)]) _ _
  unfold M_Ratio___str__
  have l1 := (intT_len hT).1
  have l2 := (intT_len hB).1
  walk_at "ws"
  refine wp_eq (a := .int B) rfl ?_
  walk_at "ws"
  refine i_eqP rfl rfl ?_
  rw [eq_oneI]
  walk_at "ws"
  refine ⟨fun h => ?_, fun h => ?_⟩
  · walk_at "ws"
    refine wp_eq (a := .int T) rfl ?_
    refine wp_eq (str_int (st := noT) hT).2 ?_
    walk_at "ws"
    unfold lineT
    rw [if_pos (of_decide_eq_true h)]
  · refine w_end ?_
    refine z_nx ?_
    refine w_seq (w_rets (fs_cons ?_))
    walk_at "ws"
    refine wp_eq (a := .int T) rfl ?_
    refine wp_eq (str_int (st := noT) hT).2 ?_
    refine ⟨_, rfl, by simp only [List.length_nil, sizeLine]; omega, fs_cons (w_ret ⟨_, rfl, by simp only [List.length_append, List.length_cons, List.length_nil, sizeLine]; omega, fs_cons ?_⟩)⟩
    walk_at "ws"
    refine wp_eq (a := .int B) rfl ?_
    refine wp_eq (str_int (st := noT) hB).2 ?_
    refine ⟨_, rfl, by simp only [List.length_append, List.length_cons, List.length_nil, sizeLine]; omega, fs_nil ?_⟩
    walk_at "ws"
    unfold lineT
    rw [if_neg (of_decide_eq_false h)]
    simp
theorem str_rat {T B : Int} (hT : T.natAbs < 10 ^ 550) (hB : B.natAbs < 10 ^ 550) : gStr t_str [ratD T B] = .ok (.str (lineT T B)) := by
  show asS (call1 g_Ratio___str__ (ratD T B)) = _
  unfold call1
  rw [rstr_ok hT hB]
  rfl
theorem numL_no {n : Nat} : (numL n).take 1 ≠ [45] := by
  intro h
  cases q : numL n with
  | nil => exact absurd q (TL.numL_ne _)
  | cons c r =>
    rw [q] at h
    have := TL.numL_digits n c (by rw [q]; simp)
    have e : c = 45 := by simpa using h
    omega
theorem num_no {w : List Nat} (h : numB w = true) : w.take 1 ≠ [45] := by
  rw [← num_back h]; exact numL_no
/-- the text of the first side -/
theorem top_back {sd : List (List Nat)} (h : badP sd = false) : intT (topI sd) = sd.getD 0 [] := by
  obtain ⟨h1, h2, _, _⟩ := good_of h
  unfold topI
  cases hl : lessB sd with
  | true =>
    rw [if_pos rfl]
    rw [hl, Bool.true_and] at h2
    have nz : digitsVal (topW sd) ≠ 0 := fun e => by
      rw [(val_zero h1).mp e] at h2
      cases h2
    unfold intT
    rw [if_neg (by omega), Int.natAbs_neg, Int.natAbs_natCast, num_back h1]
    unfold topW
    rw [if_pos hl]
    have ht : (sd.getD 0 []).take 1 = [45] := by unfold lessB at hl; exact beq_iff_eq.mp hl
    cases q : sd.getD 0 [] with
    | nil => rw [q] at ht; cases ht
    | cons c r =>
      rw [q] at ht
      have : c = 45 := by simpa using ht
      rw [this]
      rfl
  | false =>
    rw [if_neg (by decide)]
    unfold intT
    rw [if_pos (by omega), Int.toNat_natCast, num_back h1]
    unfold topW
    rw [if_neg (by rw [hl]; decide)]
theorem text_back {t : List Nat} (h : badP (sideS t) = false) (hw : (wordS t).length ≤ 1) : lineT (topI (sideS t)) (botI (sideS t)) = t := by
  have ne := spl_ne [32] t [] 0
  have back := spl_back 32 t []
  have one : wordS t = [t] := by
    unfold wordS at hw ⊢
    cases q : TL.spl [32] 0 [] t with
    | nil => exact absurd q ne
    | cons w r =>
      rw [q] at hw back
      cases r with
      | nil =>
        have e : w = t := by simpa [TL.joinL] using back
        rw [e]
      | cons _ _ => simp at hw
  have hs : sideS t = TL.spl [47] 0 [] t := by unfold sideS; rw [one]; rfl
  have ne2 := spl_ne [47] t [] 0
  have back2 := spl_back 47 t []
  have tb := top_back h
  obtain ⟨h1, h2, h3, h4⟩ := good_of h
  rw [hs] at *
  unfold lineT botI
  cases q : TL.spl [47] 0 [] t with
  | nil => exact absurd q ne2
  | cons s0 r =>
    rw [q] at tb h3 h4 back2
    rw [tb]
    cases r with
    | nil =>
      have e : s0 = t := by simpa [TL.joinL] using back2
      have z : (if [s0].length = 2 then ((digitsVal ([s0].getD 1 []) : Nat) : Int) else 1) = 1 := rfl
      rw [z, if_pos rfl]
      exact e
    | cons b r2 =>
      cases r2 with
      | cons _ _ => simp at h3
      | nil =>
        obtain ⟨n1, n2, _⟩ := h4 rfl
        have n1 : numB b = true := n1
        have n2 : 2 ≤ digitsVal b := n2
        have z : (if [s0, b].length = 2 then ((digitsVal ([s0, b].getD 1 []) : Nat) : Int) else 1) = (digitsVal b : Nat) := rfl
        rw [z]
        show (if ((digitsVal b : Nat) : Int) = 1 then s0 else s0 ++ 47 :: intT (digitsVal b : Nat)) = t
        rw [if_neg (by omega)]
        unfold intT
        rw [if_pos (by omega), Int.toNat_natCast, num_back n1]
        have e : s0 ++ ([47] ++ b) = t := by simpa [TL.joinL] using back2
        exact e
theorem spl_lone {s : Nat} {p : List Nat} (h : s ∉ p) : TL.spl [s] 0 [] p = [p] := by rw [TL.spl_last1 h]; rfl
/-- a fraction's text, read -/
theorem line_good {T B : Int} (hB : 0 < B) (hg : Nat.gcd T.natAbs B.natAbs = 1) (bT : T.natAbs < 10 ^ 550) (bB : B.natAbs < 10 ^ 550) : badP (sideS (lineT T B)) = false ∧ topI (sideS (lineT T B)) = T ∧ botI (sideS (lineT T B)) = B ∧ (wordS (lineT T B)).length = 1 := by
  have sT := (intT_len bT).2
  have sB := (intT_len bB).2
  have n32 : 32 ∉ lineT T B := by
    unfold lineT
    split
    · intro h; have := sT 32 h; omega
    · intro h
      rcases List.mem_append.mp h with h | h
      · have := sT 32 h; omega
      · rcases List.mem_cons.mp h with h | h
        · omega
        · have := sB 32 h; omega
  have hw : wordS (lineT T B) = [lineT T B] := spl_lone n32
  have n47 : 47 ∉ intT T := fun h => by have := sT 47 h; omega
  have n47b : 47 ∉ intT B := fun h => by have := sB 47 h; omega
  have eB : intT B = numL B.natAbs := by unfold intT; rw [if_pos (by omega), show B.toNat = B.natAbs by omega]
  have hs : sideS (lineT T B) = if B = 1 then [intT T] else [intT T, intT B] := by
    unfold sideS
    rw [hw]
    show TL.spl [47] 0 [] (lineT T B) = _
    unfold lineT
    by_cases e : B = 1
    · rw [if_pos e, if_pos e, spl_lone n47]
    · rw [if_neg e, if_neg e, show intT T ++ 47 :: intT B = intT T ++ ([47] ++ intT B) from rfl, TL.spl_part1 n47, spl_lone n47b]
      rfl
  have g0 : (sideS (lineT T B)).getD 0 [] = intT T := by rw [hs]; split <;> rfl
  have top : numB (topW (sideS (lineT T B))) = true ∧ (lessB (sideS (lineT T B)) && (topW (sideS (lineT T B)) == [48])) = false ∧ digitsVal (topW (sideS (lineT T B))) = T.natAbs ∧ topI (sideS (lineT T B)) = T := by
    by_cases h0 : 0 ≤ T
    · have e : intT T = numL T.natAbs := by unfold intT; rw [if_pos h0, show T.toNat = T.natAbs by omega]
      have l : lessB (sideS (lineT T B)) = false := by
        unfold lessB
        rw [g0, e]
        exact beq_eq_false_iff_ne.mpr numL_no
      have w : topW (sideS (lineT T B)) = numL T.natAbs := by unfold topW; rw [if_neg (by rw [l]; decide), g0, e]
      refine ⟨by rw [w]; exact numB_num _, by rw [l]; rfl, by rw [w]; exact TL.numL_val _, ?_⟩
      unfold topI
      rw [if_neg (by rw [l]; decide), w, TL.numL_val]
      omega
    · have e : intT T = 45 :: numL T.natAbs := by unfold intT; rw [if_neg h0]
      have l : lessB (sideS (lineT T B)) = true := by
        unfold lessB
        rw [g0, e]
        rfl
      have w : topW (sideS (lineT T B)) = numL T.natAbs := by unfold topW; rw [if_pos l, g0, e]; rfl
      refine ⟨by rw [w]; exact numB_num _, ?_, by rw [w]; exact TL.numL_val _, ?_⟩
      · rw [l, Bool.true_and, w]
        refine beq_eq_false_iff_ne.mpr fun z => ?_
        have := congrArg digitsVal z
        rw [TL.numL_val] at this
        have z0 : digitsVal [48] = 0 := rfl
        omega
      · unfold topI
        rw [if_pos l, w, TL.numL_val]
        omega
  obtain ⟨t1, t2, t3, t4⟩ := top
  refine ⟨?_, t4, ?_, by rw [hw]; rfl⟩
  · unfold badP
    rw [t1, t2, t3]
    by_cases e : B = 1
    · rw [hs, if_pos e]; rfl
    · rw [hs, if_neg e]
      show (!true || (false || (decide (2 < 2) || (decide (2 = 2) && (!numB (intT B) || (decide (digitsVal (intT B) < 2) || Nat.gcd T.natAbs (digitsVal (intT B)) != 1)))))) = false
      rw [eB, numB_num, TL.numL_val, hg, decide_eq_false (show ¬ B.natAbs < 2 by omega)]
      rfl
  · unfold botI
    by_cases e : B = 1
    · rw [hs, if_pos e, if_neg (by simp)]; exact e.symm
    · rw [hs, if_neg e]
      show ((digitsVal (intT B) : Nat) : Int) = B
      rw [eB, TL.numL_val]
      omega
end Dl

set_option maxHeartbeats 1000000
namespace Dl
open PySem PySem.W L2
local macro_rules | `(tactic| walk_at "ws1") => `(tactic| first | (with_reducible first | refine w_seq ?_ | refine w_set ?_ | refine w_setO ?_ | refine w_ifs ?_ | refine w_rets ?_ | refine w_expr ?_ | refine w_asg ?_ | refine w_end ?_ | refine w_setI ?_ | refine z_nx ?_ | refine z_rt ?_ | refine w_ret ?_ | refine w_m2 ?_ | refine w_m1 ?_ | refine w_scons ?_ | refine w_snil ?_ | refine w_bi ?_ | refine w_lst ?_ | refine w_tup ?_ | refine w_if ?_ | refine w_B ?_ | refine isB_bl ?_ | refine w_tru ?_ | refine w_notT ?_ | refine w_andT ?_ | refine w_orT ?_ | refine i_bin ?_ | refine i_ord ?_ | refine i_add ?_ | refine i_sub ?_ | refine i_gt ?_ | refine i_ge ?_ | refine i_lt ?_ | refine i_le ?_ | refine i_int ?_ | refine i_intb ?_ | refine i_abs ?_ | refine i_len ?_ | refine w_app ?_ | refine w_anil ?_ | refine w_aconsE ?_ | refine w_call ?_ | refine w_new ?_ | refine w_rng ?_ | refine w_for ?_ | refine w_dct0 ?_ | refine w_meth ?_ | refine w_lam ?_ | refine l_rt ?_ | refine l_nx ?_ | refine w_lc ?_ | refine lc_nil ?_ | refine lc_cons ?_ | refine w_par2 ?_ | refine i_neg ?_ | refine w_andV ?_ | refine w_cm ?_ | refine lp_nx ?_ | refine lp_ct ?_ | refine lp_bk ?_ | refine lp_rt ?_ | refine w_lnil ?_ | refine t_n ?_ | refine w_M1 ?_ | refine w_it ?_ | refine w_raise ?_ | refine w_chn ?_ | refine w_sl ?_ | refine w_nop ?_ | refine w_part ?_ | refine w_pkR ?_ | refine w_setF ?_ | refine w_aconsS ?_ | refine w_orV ?_) | ((with_reducible apply w_newL); focus exact rfl) | ((with_reducible apply w_var); focus exact rfl) | ((with_reducible apply w_vfP); focus exact rfl) | ((with_reducible apply w_vfO); focus exact rfl) | ((with_reducible apply w_ixO); focus exact rfl) | ((with_reducible apply w_mt1); focus exact rfl) | ((with_reducible apply w_aconsO); focus exact rfl) | ((with_reducible apply w_frz); focus exact rfl) | refine ⟨_, _, _, rfl, rfl, rfl, ?_⟩ | refine ⟨_, rfl, ?_⟩ | refine ⟨rfl, ?_⟩ | refine ⟨szl rfl, ?_⟩ | refine ⟨szt rfl, ?_⟩ | refine ⟨_, _, _, _, rfl, rfl, ?_⟩ | refine ⟨_, _, _, rfl, rfl, ?_⟩ | refine ⟨_, _, rfl, ?_⟩ | refine ⟨_, _, _, rfl, ⟨rfl, szt rfl⟩, ?_⟩ | refine ⟨fun _ => ?_, fun hh => Bool.noConfusion hh⟩ | refine ⟨fun hh => Bool.noConfusion hh, fun _ => ?_⟩)
local macro_rules | `(tactic| walk_at "ws") => `(tactic| repeat walk_at "ws1")

open NumText (digitsVal)
open TL (numL)
open Wp (lowT lowB partI gcdI)
theorem lowest_ok {a b : Int} (h0 : b ≠ 0) (hb : b.natAbs < 10 ^ 600) : g__law_lowest [.pu (.int a), .pu (.int b)] = .ok (.tup [.int (lowT a b), .int (lowB a b)], []) := by
  refine wpF_of ?_
  refine w_run rfl ?_
  show wpS (M__law_lowest [.pu (.int a), .pu (.int b), .no]) _ _
  unfold M__law_lowest
  have dv := div_part (a := a) h0 (Nat.lt_trans hb (by decide +kernel))
  have sh := share_ok (a := a) (b := b) (Nat.lt_of_lt_of_le hb (Nat.pow_le_pow_right (by decide) (by decide)))
  refine w_seq (w_stm (env' := [.pu (.int a), .pu (.int b), .pu (.int (partI a b))]) ?_ ?_)
  · walk_at "ws"
    refine ⟨fun h => ?_, fun h => ?_⟩
    · walk_at "ws"
      refine wpF_eq sh ?_
      unfold partI
      rw [if_pos (of_decide_eq_true h)]
      exact ⟨rfl, rfl⟩
    · walk_at "ws"
      refine wpF_eq sh ?_
      walk_at "ws"
      unfold partI
      rw [if_neg (of_decide_eq_false h), Int.zero_sub]
      rfl
  refine z_nx ?_
  walk_at "ws"
  refine fdivQ dv ?_
  walk_at "ws"
  refine fdivQ dv ?_
  walk_at "ws"
  rfl
theorem number_wp {N : Int} {p : D} {Q : D → List D → Prop} {X : Xc → Prop} (hp : Pen N p) (hN : N ≤ 900000) (h : ∀ i p', Pen (N + 2) p' → i.natAbs < 10 ^ 60 → Q (.int i) [p']) : wpF (g__law_number [.ow p]) Q X := by
  refine w_run rfl ?_
  show wpS (M__law_number [.pa 0 p]) _ _
  unfold M__law_number
  walk_at "ws"
  refine i_pow rfl ?_
  walk_at "ws"
  refine i_pow rfl ?_
  walk_at "ws"
  refine draw_wp hp (by omega) (by decide) (by decide) fun r p1 hp1 r0 r1 => ?_
  walk_at "ws"
  refine pick_wp hp1 (by omega) (szt rfl) (szt rfl) fun x hx p2 hp2 => ?_
  have : ∃ i : Int, x = .int i ∧ i.natAbs < 10 ^ 60 := by
    simp only [List.mem_cons, List.not_mem_nil, or_false] at hx
    rcases hx with rfl | rfl | rfl | rfl | rfl | rfl | rfl | rfl | rfl | rfl
    all_goals first | exact ⟨_, rfl, by decide +kernel⟩ | exact ⟨_, rfl, Nat.lt_of_le_of_lt (show _ ≤ 100 by omega) (by decide +kernel)⟩
  obtain ⟨i, rfl, hi⟩ := this
  walk_at "ws"
  exact h i p2 (hp2.mono (by omega)) hi
theorem pair_wp {N : Int} {p : D} {Q : D → List D → Prop} {X : Xc → Prop} (hp : Pen N p) (hN : N ≤ 800000) (h : ∀ a b p', Pen (N + 4) p' → b ≠ 0 → a.natAbs < 10 ^ 60 → b.natAbs < 10 ^ 60 → Q (.tup [.int a, .int b]) [p']) : wpF (g__law_pair [.ow p]) Q X := by
  refine w_run rfl ?_
  show wpS (M__law_pair [.pa 0 p, .no]) _ _
  unfold M__law_pair
  walk_at "ws"
  refine number_wp hp (by omega) fun b p1 hp1 hb => ?_
  walk_at "ws"
  refine number_wp hp1 (by omega) fun a p2 hp2 ha => ?_
  walk_at "ws"
  refine i_neP rfl rfl ?_
  rw [eq_zeroI]
  walk_at "ws"
  refine ⟨fun h1 => ?_, fun h1 => ?_⟩
  · walk_at "ws"
    refine h a b p2 (hp2.mono (by omega)) (fun e => ?_) ha hb
    rw [decide_eq_true e] at h1
    cases h1
  · walk_at "ws"
    exact h a 4 p2 (hp2.mono (by omega)) (by decide) ha (by decide +kernel)
theorem addStr {a b : List Nat} {Q : D → Prop} {X : Xc → Prop} (h : a.length + b.length ≤ 10000000) (q : Q (.str (a ++ b))) : wp (addD (.str a) (.str b)) Q X := by
  show wp (if a.length + b.length ≤ sizeLine then R.ok (D.str (a ++ b)) else .bad) Q X
  rw [if_pos (by simp only [sizeLine]; omega)]
  exact wp_o.mpr q
def signL : List (List Nat) := [[32], [48], [49], [45], [47], [50], [47, 49], [47, 50], [10], [], [48, 48], [32, 49], [43], [120], [45, 45], [54]]
theorem signL_ok : ∀ s ∈ signL, (∀ c ∈ s, c < 1114112) ∧ s.length ≤ 5 := by decide
theorem bent_wp {N : Int} {p : D} {t : List Nat} {Q : D → List D → Prop} {X : Xc → Prop} (hp : Pen N p) (hN : N ≤ 900000) (ht : okT t) (hl : t.length ≤ 40000) (h : ∀ t' p', Pen (N + 3) p' → okT t' → t'.length ≤ 2 * t.length + 10 → Q (.str t') [p']) : wpF (g__law_bent [.ow p, .pu (.str t)]) Q X := by
  refine w_run rfl ?_
  show wpS (M__law_bent [.pa 0 p, .pu (.str t), .no, .no, .no]) _ _
  unfold M__law_bent
  walk_at "ws"
  refine draw_wp hp (by omega) (by decide) (by decide) fun r1 p1 hp1 r10 r11 => ?_
  walk_at "ws"
  refine wp_eq (a := .int t.length) rfl ?_
  walk_at "ws"
  refine draw_wp hp1 (by omega) (by omega) (by omega) fun r2 p2 hp2 r20 r21 => ?_
  walk_at "ws"
  refine pick_wp hp2 (by omega) (szt rfl) (szt rfl) fun x hx p3 hp3 => ?_
  have hx : x ∈ signL.map D.str := hx
  obtain ⟨sg, hsg, rfl⟩ := List.mem_map.mp hx
  obtain ⟨sg1, sg2⟩ := signL_ok sg hsg
  have fin : ∀ t' : List Nat, (∀ c ∈ t', c < 1114112) → t'.length ≤ 2 * t.length + 10 → Q (.str t') [p3] := fun t' h1 h2 => h t' p3 (hp3.mono (by omega)) ⟨h1, by omega⟩ h2
  have k1 := ht.1
  have c1 : ∀ lo hi, (∀ c ∈ cutL t lo hi, c < 1114112) ∧ (cutL t lo hi).length ≤ t.length := fun lo hi => ⟨fun c hc => k1 c (cutL_mem hc), cutL_len _ _ _⟩
  walk_at "ws"
  refine i_eqP rfl rfl ?_
  walk_at "ws"
  refine ⟨fun h1 => ?_, fun h1 => ?_⟩
  · walk_at "ws"
    refine wp_eq (a := .str (cutL t none (some r2))) rfl ?_
    walk_at "ws"
    refine wp_eq (a := .str (cutL t (some (r2 + 1)) none)) rfl ?_
    have a := c1 none (some r2)
    have b := c1 (some (r2 + 1)) none
    refine addStr (by omega) ?_
    walk_at "ws"
    exact fin _ (fun c hc => (List.mem_append.mp hc).elim (a.1 c) (b.1 c)) (by rw [List.length_append]; omega)
  walk_at "ws"
  refine ⟨fun h2 => ?_, fun h2 => ?_⟩
  · walk_at "ws"
    refine wp_eq (a := .str (cutL t none (some r2))) rfl ?_
    have a := c1 none (some r2)
    walk_at "ws"
    refine addStr (by omega) ?_
    walk_at "ws"
    refine wp_eq (a := .str (cutL t (some (r2 + r1 - 1)) none)) rfl ?_
    have b := c1 (some (r2 + r1 - 1)) none
    refine addStr (by rw [List.length_append]; omega) ?_
    walk_at "ws"
    exact fin _ (fun c hc => (List.mem_append.mp hc).elim (fun hc => (List.mem_append.mp hc).elim (a.1 c) (sg1 c)) (b.1 c)) (by rw [List.length_append, List.length_append]; omega)
  walk_at "ws"
  refine i_eqP rfl rfl ?_
  walk_at "ws"
  refine ⟨fun h3 => ?_, fun h3 => ?_⟩
  · walk_at "ws"
    refine addStr (by omega) ?_
    walk_at "ws"
    exact fin _ (fun c hc => (List.mem_append.mp hc).elim (k1 c) (sg1 c)) (by rw [List.length_append]; omega)
  · walk_at "ws"
    refine addStr (by omega) ?_
    walk_at "ws"
    exact fin _ (fun c hc => (List.mem_append.mp hc).elim (sg1 c) (k1 c)) (by rw [List.length_append]; omega)
theorem req_ok {T B : Int} : g_Ratio___eq__ [.pu (ratD T B), .pu (ratD T B)] = .ok (.bl true, []) := by
  refine wpF_of ?_
  refine w_run rfl ?_
  show wpS (M_Ratio___eq__ [.pu (ratD T B), .pu (ratD T B)]) _ _
  unfold M_Ratio___eq__
  have e : ∀ i : Int, eqP (.int i) (.int i) = true := fun i => by show (i == i) = true; simp
  walk_at "ws"
  refine wp_eq (a := .bl true) rfl ?_
  refine wp_eq (a := true) rfl ?_
  walk_at "ws"
  refine wp_eq (a := .int T) rfl ?_
  walk_at "ws"
  refine wp_eq (a := .int T) rfl ?_
  refine i_eqP rfl rfl ?_
  rw [e]
  refine wp_eq (a := true) rfl ?_
  walk_at "ws"
  refine wp_eq (a := .int B) rfl ?_
  walk_at "ws"
  refine wp_eq (a := .int B) rfl ?_
  refine i_eqP rfl rfl ?_
  rw [e]
  walk_at "ws"
  rfl
theorem ne_rat (T B : Int) : neV t_eq (ratD T B) (ratD T B) = .ok (.bl false) := by
  have l : eqD t_eq 5 (ratD T B) (ratD T B) = .ok true := by
    show (if besides 31 (ratD T B) then asBR (call2 g_Ratio___eq__ (ratD T B) (ratD T B)) else .bad) = _
    rw [if_pos (show besides 31 (ratD T B) = true from rfl)]
    unfold call2
    rw [req_ok]
    rfl
  unfold neV
  rw [show (insB (ratD T B) && !insB (ratD T B)) = false from rfl, l]
  rfl
section
variable {Q : D → Ev → Prop} {env : Ev} {X : Xc → Prop} {d : D} {s : List Nat} {k : Int}
theorem hd_ok (e : gStr t_str [d] = .ok (.str s)) (h : Q (.lst [.str s]) env) : wpS (M__law_heard (.ok d) (.fu :: List.replicate (4 - 1) .no)) (lamZ Q env) X := by
  unfold M__law_heard
  walk_at "ws"
  refine wp_eq rfl ?_
  walk_at "ws"
  refine w_tryN rfl rfl ?_
  walk_at "ws"
  refine wp_eq (a := .bl true) rfl ?_
  walk_at "ws"
  refine wp_eq e ?_
  walk_at "ws"
  exact h
theorem hd_txt (h : Q (.tup [.int 0, .int k]) env) : wpS (M__law_heard (.exc (xR k)) (.fu :: List.replicate (4 - 1) .no)) (lamZ Q env) X := wpS_eq (f := .rt (.tup [.int 0, .int k])) rfl h
end
theorem read_odd {d : D} (h : isiD l_str d = .ok (.bl false)) : g_Ratio_read [.pu (.fn 131), .pu d] = .exc (xR 0) := by
  refine wpF_of ?_
  refine w_run rfl ?_
  show wpS (M_Ratio_read [.pu (.fn 131), .pu d, .no, .no, .no]) _ _
  unfold M_Ratio_read
  walk_at "ws"
  refine wp_eq h ?_
  refine wp_eq (a := false) rfl ?_
  walk_at "ws"
  rfl
theorem ne_one {m : Nat → Option (List Sl → RF)} {s : List Nat} {Q : D → Prop} {X : Xc → Prop} (h : Q (.bl false)) : wp (neV m (.lst [.str s]) (.lst [.str s])) Q X := by
  refine i_neP rfl rfl ?_
  have : eqP (.lst [.str s]) (.lst [.str s]) = true := by
    show ((s == s) && true) = true
    simp
  rw [this]
  exact h
theorem ne_strs {m : Nat → Option (List Sl → RF)} {s : List Nat} {Q : D → Prop} {X : Xc → Prop} (h : Q (.bl false)) : wp (neV m (.str s) (.str s)) Q X := by
  refine i_neP rfl rfl ?_
  have : eqP (.str s) (.str s) = true := by
    show (s == s) = true
    simp
  rw [this]
  exact h
theorem ne_two {m : Nat → Option (List Sl → RF)} {k : Int} {Q : D → Prop} {X : Xc → Prop} (h : Q (.bl false)) : wp (neV m (.tup [.int 0, .int k]) (.tup [.int 0, .int k])) Q X := by
  refine i_neP rfl rfl ?_
  have : eqP (.tup [.int 0, .int k]) (.tup [.int 0, .int k]) = true := by
    show (true && ((k == k) && true)) = true
    simp
  rw [this]
  exact h
end Dl

set_option maxHeartbeats 4000000
namespace Dl
open PySem PySem.W L2
local macro_rules | `(tactic| walk_at "ws1") => `(tactic| first | (with_reducible first | refine w_seq ?_ | refine w_set ?_ | refine w_setO ?_ | refine w_ifs ?_ | refine w_rets ?_ | refine w_expr ?_ | refine w_asg ?_ | refine w_end ?_ | refine w_setI ?_ | refine z_nx ?_ | refine z_rt ?_ | refine w_ret ?_ | refine w_m2 ?_ | refine w_m1 ?_ | refine w_scons ?_ | refine w_snil ?_ | refine w_bi ?_ | refine w_lst ?_ | refine w_tup ?_ | refine w_if ?_ | refine w_B ?_ | refine isB_bl ?_ | refine w_tru ?_ | refine w_notT ?_ | refine w_andT ?_ | refine w_orT ?_ | refine i_bin ?_ | refine i_ord ?_ | refine i_add ?_ | refine i_sub ?_ | refine i_gt ?_ | refine i_ge ?_ | refine i_lt ?_ | refine i_le ?_ | refine i_int ?_ | refine i_intb ?_ | refine i_abs ?_ | refine i_len ?_ | refine w_app ?_ | refine w_anil ?_ | refine w_aconsE ?_ | refine w_call ?_ | refine w_new ?_ | refine w_rng ?_ | refine w_for ?_ | refine w_dct0 ?_ | refine w_meth ?_ | refine w_lam ?_ | refine l_rt ?_ | refine l_nx ?_ | refine w_lc ?_ | refine lc_nil ?_ | refine lc_cons ?_ | refine w_par2 ?_ | refine i_neg ?_ | refine w_andV ?_ | refine w_cm ?_ | refine lp_nx ?_ | refine lp_ct ?_ | refine lp_bk ?_ | refine lp_rt ?_ | refine w_lnil ?_ | refine t_n ?_ | refine w_M1 ?_ | refine w_it ?_ | refine w_raise ?_ | refine w_chn ?_ | refine w_sl ?_ | refine w_nop ?_ | refine w_part ?_ | refine w_pkR ?_ | refine w_setF ?_ | refine w_aconsS ?_ | refine w_orV ?_) | ((with_reducible apply w_newL); focus exact rfl) | ((with_reducible apply w_var); focus exact rfl) | ((with_reducible apply w_vfP); focus exact rfl) | ((with_reducible apply w_vfO); focus exact rfl) | ((with_reducible apply w_ixO); focus exact rfl) | ((with_reducible apply w_mt1); focus exact rfl) | ((with_reducible apply w_aconsO); focus exact rfl) | ((with_reducible apply w_frz); focus exact rfl) | refine ⟨_, _, _, rfl, rfl, rfl, ?_⟩ | refine ⟨_, rfl, ?_⟩ | refine ⟨rfl, ?_⟩ | refine ⟨szl rfl, ?_⟩ | refine ⟨szt rfl, ?_⟩ | refine ⟨_, _, _, _, rfl, rfl, ?_⟩ | refine ⟨_, _, _, rfl, rfl, ?_⟩ | refine ⟨_, _, rfl, ?_⟩ | refine ⟨_, _, _, rfl, ⟨rfl, szt rfl⟩, ?_⟩ | refine ⟨fun _ => ?_, fun hh => Bool.noConfusion hh⟩ | refine ⟨fun hh => Bool.noConfusion hh, fun _ => ?_⟩)
local macro_rules | `(tactic| walk_at "ws") => `(tactic| repeat walk_at "ws1")

open NumText (digitsVal)
open TL (numL)
open Wp (lowT lowB partI gcdI)
def Sh (sc : D) (N : Int) (e : Ev) : Prop := ∃ p s2 s3 s4 s5 s6 s7 s8 s9 s10 s11, e = [.pu sc, .ow p, s2, s3, s4, s5, s6, s7, s8, s9, s10, s11, .no] ∧ Pen N p
theorem lt_550 {n : Nat} (h : n < 10 ^ 60) : n < 10 ^ 550 := Nat.lt_of_lt_of_le h (Nat.pow_le_pow_right (by decide) (by decide))
theorem law_true (ns : List Int) (hl : ns.length ≤ 63) (hb : ∀ i ∈ ns, Builtin.Int.intBits i ≤ 1048576) : ∃ outs, g_law [.pu (.slc (ns.map D.int))] = .ok (.bl true, outs) := by
  refine law_of ?_
  unfold g_law
  refine w_run rfl ?_
  show wpS (M_law [.pu (.slc (ns.map D.int)), .no, .no, .no, .no, .no, .no, .no, .no, .no, .no, .no, .no]) _ _
  unfold M_law
  walk_at "ws"
  have pen : ∃ cs : List Int, g__law_pen [.pu (.slc (ns.map D.int))] = .ok (.lst [.lst (cs.map D.int), .int 0, .int 0], []) := by
    refine ⟨cutL ns none (some 63), ?_⟩
    have : cutL (ns.map D.int) none (some 63) = (cutL ns none (some 63)).map D.int := by
      unfold cutL
      simp [List.map_take, List.map_drop]
    rw [← this]
    rfl
  obtain ⟨cs, hpen⟩ := pen
  refine wpF_eq hpen ?_
  walk_at "ws"
  refine wp_eq rfl ?_
  refine w_loop (I := fun j e => Sh (.slc (ns.map D.int)) (14 * j) e) _ 0 _ ⟨_, _, _, _, _, _, _, _, _, _, _, rfl, cs, 0, 0, rfl, by decide, by decide, by decide⟩ (fun j d env hj hI => ?_) (fun e he => ?_)
  · have j12 : j < 14 := by
      have := (List.getElem?_eq_some_iff.mp hj).1
      simpa using this
    obtain ⟨p, s2, s3, s4, s5, s6, s7, s8, s9, s10, s11, rfl, hp⟩ := hI
    refine wp_eq (a := [.pu (.slc (ns.map D.int)), .ow p, .pu d, s3, s4, s5, s6, s7, s8, s9, s10, s11, .no]) rfl ?_
    walk_at "ws"
    refine pair_wp hp (by omega) fun a b p1 hp1 b0 ha hb' => ?_
    have hT : (lowT a b).natAbs < 10 ^ 550 := lt_550 (Nat.lt_of_le_of_lt (Wp.lowT_abs b0) ha)
    have hB : (lowB a b).natAbs < 10 ^ 550 := lt_550 (Nat.lt_of_le_of_lt (Wp.lowB_abs (t := a) b0) hb')
    have Bpos := Wp.lowB_pos (t := a) b0
    have cop : Nat.gcd (lowT a b).natAbs (lowB a b).natAbs = 1 := Wp.low_cop (t := a) b0
    have b8000 : b.natAbs < 2 ^ 8000 := Nat.lt_trans hb' (by decide +kernel)
    refine z_nx ?_
    refine w_norm (e' := [.pu (.slc (ns.map D.int)), .ow p1, .pu d, .pu (.tup [.int a, .int b]), s4, s5, s6, s7, s8, s9, s10, s11, .no]) rfl ?_
    walk_at "ws"
    refine wp_eq (a := .int a) rfl ?_
    walk_at "ws"
    refine wp_eq (a := .int b) rfl ?_
    walk_at "ws"
    refine wpF_eq (lowest_ok b0 (Nat.lt_of_lt_of_le hb' (Nat.pow_le_pow_right (by decide) (by decide)))) ?_
    have rin := rinit_ok (a := a) b0 b8000
    have rin2 : g_Ratio___init__ [.ow (.ins 31 [] []), .pu (.int (lowT a b)), .pu (.int (lowB a b))] = .ok (.non, [ratD (lowT a b) (lowB a b)]) := by
      rw [rinit_ok (a := lowT a b) (Wp.pos_ne Bpos) (Nat.lt_trans hB (by decide +kernel)), (low_cop1 Bpos cop).1, (low_cop1 Bpos cop).2]
    have lt := intT_len hT
    have lb := intT_len hB
    have llt : (intT (lowT a b)).length ≤ 61 := by
      unfold intT
      split
      · exact Nat.le_trans (TL.numL_len (k := 60) (by decide) (by rw [show (lowT a b).toNat = (lowT a b).natAbs by omega]; exact Nat.lt_of_le_of_lt (Wp.lowT_abs b0) ha)) (by decide)
      · have := TL.numL_len (k := 60) (by decide) (Nat.lt_of_le_of_lt (Wp.lowT_abs b0) ha)
        simp only [List.length_cons]; omega
    have llb : (intT (lowB a b)).length ≤ 61 := by
      unfold intT
      split
      · exact Nat.le_trans (TL.numL_len (k := 60) (by decide) (by rw [show (lowB a b).toNat = (lowB a b).natAbs by omega]; exact Nat.lt_of_le_of_lt (Wp.lowB_abs (t := a) b0) hb')) (by decide)
      · have := TL.numL_len (k := 60) (by decide) (Nat.lt_of_le_of_lt (Wp.lowB_abs (t := a) b0) hb')
        simp only [List.length_cons]; omega
    generalize lowT a b = T at *
    generalize lowB a b = B at *
    refine wp_eq (a := [.pu (.slc (ns.map D.int)), .ow p1, .pu d, .pu (.tup [.int a, .int b]), .pu (.int T), .pu (.int B), s6, s7, s8, s9, s10, s11, .no]) rfl ?_
    have lineL : (lineT T B).length ≤ 123 ∧ okT (lineT T B) := by
      have l : (lineT T B).length ≤ 123 := by
        unfold lineT
        split
        · omega
        · simp only [List.length_append, List.length_cons]; omega
      refine ⟨l, fun c hc => ?_, by omega⟩
      unfold lineT at hc
      split at hc
      · have := lt.2 c hc; omega
      · rcases List.mem_append.mp hc with hc | hc
        · have := lt.2 c hc; omega
        · rcases List.mem_cons.mp hc with hc | hc
          · omega
          · have := lb.2 c hc; omega
    obtain ⟨g1, g2, g3, g4⟩ := line_good Bpos cop hT hB
    have hread : g_Ratio_read [.pu (.fn 131), .pu (.str (lineT T B))] = .ok (ratD T B, []) := by
      rw [read_ok lineL.2 (by omega)]
      unfold readR
      rw [if_neg (by rw [g1]; decide), if_neg (by omega), g2, g3]
    refine z_nx ?_
    refine w_seq (w_stm (env' := [.pu (.slc (ns.map D.int)), .ow p1, .pu d, .pu (.tup [.int a, .int b]), .pu (.int T), .pu (.int B), s6, s7, s8, s9, .pu (.str (lineT T B)), s11, .no]) ?_ ?_)
    · walk_at "ws"
      refine ⟨fun h => ?_, fun h => ?_⟩
      · have hB1 : B ≠ 1 := by have := of_decide_eq_true h; omega
        walk_at "ws"
        refine wp_eq (str_int hT).1 ?_
        walk_at "ws"
        refine addStr (by simp only [List.length_cons, List.length_nil]; omega) ?_
        walk_at "ws"
        refine wp_eq (str_int hB).1 ?_
        refine addStr (by simp only [List.length_append, List.length_cons, List.length_nil]; omega) ?_
        walk_at "ws"
        unfold lineT
        rw [if_neg hB1]
        simp
      · have hB1 : B = 1 := by have := of_decide_eq_false h; omega
        walk_at "ws"
        refine wp_eq (str_int hT).1 ?_
        walk_at "ws"
        unfold lineT
        rw [if_pos hB1]
        rfl
    refine z_nx ?_
    generalize hline : lineT T B = line at *
    walk_at "ws"
    refine wp_eq (a := .int a) rfl ?_
    walk_at "ws"
    refine wp_eq (a := .int b) rfl ?_
    walk_at "ws"
    refine wpF_eq rin ⟨rfl, _, _, rfl, ?_⟩
    walk_at "ws"
    refine wp_eq (str_rat hT hB) ?_
    walk_at "ws"
    rw [hline]
    refine ne_strs ?_
    walk_at "ws"
    refine wpF_eq hread ?_
    walk_at "ws"
    refine wpF_eq rin2 ⟨rfl, _, _, rfl, ?_⟩
    walk_at "ws"
    refine wp_eq (ne_rat T B) ?_
    walk_at "ws"
    refine bent_wp hp1 (by omega) lineL.2 (by omega) fun b1 p2 hp2 hb1 lb1 => ?_
    walk_at "ws"
    refine bent_wp hp2 (by omega) lineL.2 (by omega) fun b2 p3 hp3 hb2 lb2 => ?_
    walk_at "ws"
    refine bent_wp hp3 (by omega) hb2 (by omega) fun b3 p4 hp4 hb3 lb3 => ?_
    walk_at "ws"
    refine wp_eq (a := [.str b1, .str b3]) rfl ?_
    refine w_loop (I := fun _ e => ∃ s6 s9, e = [.pu (.slc (ns.map D.int)), .ow p4, .pu d, .pu (.tup [.int a, .int b]), .pu (.int T), .pu (.int B), s6, s7, s8, s9, .pu (.str line), s11, .no]) _ 0 _ ⟨_, _, rfl⟩ (fun j2 d2 env2 hj2 hI2 => ?_) (fun e he => ?_)
    · obtain ⟨s6, s9, rfl⟩ := hI2
      obtain ⟨t, rfl, ht, htl⟩ : ∃ t, d2 = .str t ∧ okT t ∧ t.length ≤ 540 := by
        have := List.mem_of_getElem? hj2
        simp only [List.mem_cons, List.not_mem_nil, or_false] at this
        rcases this with rfl | rfl
        · exact ⟨_, rfl, hb1, by omega⟩
        · exact ⟨_, rfl, hb3, by omega⟩
      refine wp_eq (a := [.pu (.slc (ns.map D.int)), .ow p4, .pu d, .pu (.tup [.int a, .int b]), .pu (.int T), .pu (.int B), s6, s7, s8, .pu (.str t), .pu (.str line), s11, .no]) rfl ?_
      walk_at "ws"
      refine wpF_eq (law_wrong_ok ht (by omega)) ?_
      have lens : ∀ p ∈ sideS t, p.length ≤ 540 := fun p hp => by have := side_len p hp; have := (word_ok ht).2; omega
      cases q : badP (sideS t) with
      | true =>
        rw [show wrongD t = .int 0 by unfold wrongD; rw [if_pos q]]
        walk_at "ws"
        refine wpF_exc (x := xR 0) (by rw [read_ok ht (by omega)]; unfold readR; rw [if_pos q]) ?_
        refine hd_txt ?_
        walk_at "ws"
        refine wp_eq (a := .bl false) rfl ?_
        walk_at "ws"
        refine ne_two ?_
        walk_at "ws"
        exact ⟨_, _, rfl⟩
      | false =>
        have nq : ¬ badP (sideS t) = true := by rw [q]; decide
        by_cases hw : 1 < (wordS t).length
        · rw [show wrongD t = .int 1 by unfold wrongD; rw [if_neg nq, if_pos hw]]
          walk_at "ws"
          refine wpF_exc (x := xR 1) (by rw [read_ok ht (by omega)]; unfold readR; rw [if_neg nq, if_pos hw]) ?_
          refine hd_txt ?_
          walk_at "ws"
          refine wp_eq (a := .bl false) rfl ?_
          walk_at "ws"
          refine ne_two ?_
          walk_at "ws"
          exact ⟨_, _, rfl⟩
        · rw [show wrongD t = .non by unfold wrongD; rw [if_neg nq, if_neg hw]]
          walk_at "ws"
          refine wpF_eq (a := ratD (topI (sideS t)) (botI (sideS t))) (o := []) (by rw [read_ok ht (by omega)]; unfold readR; rw [if_neg nq, if_neg hw]) ?_
          obtain ⟨n1, _, l2, n3⟩ := good_of q
          have vT : (topI (sideS t)).natAbs < 10 ^ 550 := by
            rw [topI_abs]
            exact Nat.lt_of_lt_of_le (val_lt _ (num_all n1).1) (Nat.pow_le_pow_right (by decide) (Nat.le_trans (top_len lens) (by decide)))
          have vB : (botI (sideS t)).natAbs < 10 ^ 550 := by
            unfold botI
            by_cases e : (sideS t).length = 2
            · rw [if_pos e, Int.natAbs_natCast]
              have lb2 : ((sideS t).getD 1 []).length ≤ 540 := by
                rw [List.getD_eq_getElem?_getD, List.getElem?_eq_getElem (by omega)]
                exact lens _ (List.getElem_mem _)
              exact Nat.lt_of_lt_of_le (val_lt _ (num_all (n3 e).1).1) (Nat.pow_le_pow_right (by decide) (by omega))
            · rw [if_neg e]
              show 1 < 10 ^ 550
              decide +kernel
          refine hd_ok (by rw [str_rat vT vB, text_back q (by omega)]) ?_
          walk_at "ws"
          refine wp_eq (a := .bl true) rfl ?_
          walk_at "ws"
          refine ne_one ?_
          walk_at "ws"
          exact ⟨_, _, rfl⟩
    obtain ⟨s6, s9, rfl⟩ := he
    walk_at "ws"
    refine wpF_eq (a := .non) (o := [ratD 1 1]) (by kernel_rfl) ⟨rfl, _, _, rfl, ?_⟩
    walk_at "ws"
    refine i_pow rfl ?_
    walk_at "ws"
    refine pick_wp hp4 (by omega) (szt rfl) (szt rfl) fun o ho p5 hp5 => ?_
    have odd : isiD l_str o = .ok (.bl false) := by
      simp only [List.mem_cons, List.not_mem_nil, or_false] at ho
      rcases ho with rfl | rfl | rfl | rfl | rfl | rfl | rfl | rfl <;> rfl
    walk_at "ws"
    refine wpF_exc (x := xR 0) (read_odd odd) ?_
    refine hd_txt ?_
    walk_at "ws"
    refine ne_two ?_
    walk_at "ws"
    exact ⟨_, _, _, _, _, _, _, _, _, _, _, rfl, hp5.mono (by omega)⟩
  · obtain ⟨p, s2, s3, s4, s5, s6, s7, s8, s9, s10, s11, rfl, hp⟩ := he
    walk_at "ws"
    refine wp_eq rfl ?_
    refine wpS_eq (f := .nx) (e' := [.pu (.slc (ns.map D.int)), .ow p, s2, s3, s4, s5, s6, .pu (.lst [.str [], .str [32], .str [50, 47, 52], .str [51, 47, 49], .str [45, 48], .str [48, 47, 50], .str [49, 47, 48], .str [49, 47, 45, 50], .str [48, 49], .str [49, 32, 50], .str [49, 47, 50, 32], .str [45, 45, 49], .str [49, 47, 50, 47, 51], .str [43, 49], .str [47, 50], .str [49, 47]]), .ow (.lst [.tup [.int 0, .int 0], .tup [.int 0, .int 0], .tup [.int 0, .int 0], .tup [.int 0, .int 0], .tup [.int 0, .int 0], .tup [.int 0, .int 0], .tup [.int 0, .int 0], .tup [.int 0, .int 0], .tup [.int 0, .int 0], .tup [.int 0, .int 1], .tup [.int 0, .int 1], .tup [.int 0, .int 0], .tup [.int 0, .int 0], .tup [.int 0, .int 0], .tup [.int 0, .int 0], .tup [.int 0, .int 0]]), s9, .pu (.str [49, 47]), s11, .no]) (by kernel_rfl) ?_
    walk_at "ws"
    refine w_pkL rfl ?_
    refine wpE_eq (a := .lst [.tup [.int 0, .int 0], .tup [.int 0, .int 0], .tup [.int 0, .int 0], .tup [.int 0, .int 0], .tup [.int 0, .int 0], .tup [.int 0, .int 0], .tup [.int 0, .int 0], .tup [.int 0, .int 0], .tup [.int 0, .int 0], .tup [.int 0, .int 1], .tup [.int 0, .int 1], .tup [.int 0, .int 0], .tup [.int 0, .int 0], .tup [.int 0, .int 0], .tup [.int 0, .int 0], .tup [.int 0, .int 0]]) (e' := [.pu (.slc (ns.map D.int)), .ow p, s2, s3, s4, s5, s6, .pu (.lst [.str [], .str [32], .str [50, 47, 52], .str [51, 47, 49], .str [45, 48], .str [48, 47, 50], .str [49, 47, 48], .str [49, 47, 45, 50], .str [48, 49], .str [49, 32, 50], .str [49, 47, 50, 32], .str [45, 45, 49], .str [49, 47, 50, 47, 51], .str [43, 49], .str [47, 50], .str [49, 47]]), .ow (.lst [.tup [.int 0, .int 0], .tup [.int 0, .int 0], .tup [.int 0, .int 0], .tup [.int 0, .int 0], .tup [.int 0, .int 0], .tup [.int 0, .int 0], .tup [.int 0, .int 0], .tup [.int 0, .int 0], .tup [.int 0, .int 0], .tup [.int 0, .int 1], .tup [.int 0, .int 1], .tup [.int 0, .int 0], .tup [.int 0, .int 0], .tup [.int 0, .int 0], .tup [.int 0, .int 0], .tup [.int 0, .int 0]]), s9, .pu (.str [49, 47]), s11, .no]) (by kernel_rfl) ?_
    refine ⟨_, .bl true, rfl, by kernel_rfl, rfl, ?_⟩
    walk_at "ws"
    rfl
end Dl

set_option maxHeartbeats 0
namespace Dl
open PySem PySem.W L2 PyProof.Rows
abbrev s_BadRatio___init__ : Stmt := inClass (topS 8) 0
theorem sc_BadRatio___init__ : FnScope ["self", "part"] ["self", "part"] (defScope s_BadRatio___init__) := ⟨rfl, rfl, rfl, by decide +kernel, rfl, by decide +kernel, by decide +kernel⟩
abbrev s_BadText___init__ : Stmt := inClass (topS 9) 0
theorem sc_BadText___init__ : FnScope ["self", "line", "word"] ["self", "line", "word"] (defScope s_BadText___init__) := ⟨rfl, rfl, rfl, by decide +kernel, rfl, by decide +kernel, by decide +kernel⟩
def fn : List He.DefD := [⟨("is_integer", none), "is_integer", "is_integer", defArgs s_is_integer, defBody s_is_integer, defScope s_is_integer, [], []⟩,
  ⟨("Ratio", some "__init__"), "__init__", "Ratio.__init__", defArgs s_Ratio___init__, defBody s_Ratio___init__, defScope s_Ratio___init__, [.int 1], []⟩,
  ⟨("figures_told", none), "figures_told", "figures_told", defArgs s_figures_told, defBody s_figures_told, defScope s_figures_told, [], []⟩,
  ⟨("parts_told", none), "parts_told", "parts_told", defArgs s_parts_told, defBody s_parts_told, defScope s_parts_told, [], []⟩,
  ⟨("Ratio", some "__eq__"), "__eq__", "Ratio.__eq__", defArgs s_Ratio___eq__, defBody s_Ratio___eq__, defScope s_Ratio___eq__, [], []⟩,
  ⟨("Ratio", some "__str__"), "__str__", "Ratio.__str__", defArgs s_Ratio___str__, defBody s_Ratio___str__, defScope s_Ratio___str__, [], []⟩,
  ⟨("_law_heard", none), "_law_heard", "_law_heard", defArgs s__law_heard, defBody s__law_heard, defScope s__law_heard, [], []⟩,
  ⟨("_law_pen", none), "_law_pen", "_law_pen", defArgs s__law_pen, defBody s__law_pen, defScope s__law_pen, [], []⟩,
  ⟨("_law_draw", none), "_law_draw", "_law_draw", defArgs s__law_draw, defBody s__law_draw, defScope s__law_draw, [], []⟩,
  ⟨("_law_pick", none), "_law_pick", "_law_pick", defArgs s__law_pick, defBody s__law_pick, defScope s__law_pick, [], []⟩,
  ⟨("_law_share", none), "_law_share", "_law_share", defArgs s__law_share, defBody s__law_share, defScope s__law_share, [], []⟩,
  ⟨("_law_lowest", none), "_law_lowest", "_law_lowest", defArgs s__law_lowest, defBody s__law_lowest, defScope s__law_lowest, [], []⟩,
  ⟨("_law_number", none), "_law_number", "_law_number", defArgs s__law_number, defBody s__law_number, defScope s__law_number, [], []⟩,
  ⟨("_law_pair", none), "_law_pair", "_law_pair", defArgs s__law_pair, defBody s__law_pair, defScope s__law_pair, [], []⟩,
  ⟨("_law_is_number", none), "_law_is_number", "_law_is_number", defArgs s__law_is_number, defBody s__law_is_number, defScope s__law_is_number, [], []⟩,
  ⟨("_law_wrong", none), "_law_wrong", "_law_wrong", defArgs s__law_wrong, defBody s__law_wrong, defScope s__law_wrong, [], []⟩,
  ⟨("_law_bent", none), "_law_bent", "_law_bent", defArgs s__law_bent, defBody s__law_bent, defScope s__law_bent, [], []⟩,
  ⟨("law", none), "law", "law", defArgs s_law, defBody s_law, defScope s_law, [], []⟩,
  ⟨("BadRatio", some "__init__"), "__init__", "BadRatio.__init__", defArgs s_BadRatio___init__, defBody s_BadRatio___init__, defScope s_BadRatio___init__, [], []⟩,
  ⟨("BadText", some "__init__"), "__init__", "BadText.__init__", defArgs s_BadText___init__, defBody s_BadText___init__, defScope s_BadText___init__, [], []⟩]
def fm : List He5.DefA := [⟨fun K => He5.wf K (He.ga K "Ratio") "classmethod" "read", "read", "Ratio.read", defArgs s_Ratio_read, defBody s_Ratio_read, defScope s_Ratio_read, [], []⟩]
def fa : List He.Fa := [.free "bool",
  .free "isinstance",
  .free "int",
  .glo "is_integer",
  .glo "BadRatio",
  .noat "Ratio" "top",
  .noat "Ratio" "bottom",
  .str "FIGURES" "0123456789",
  .free "all",
  .glo "figures_told",
  .free "len",
  .glo "BadText",
  .free "str",
  .glo "parts_told",
  .mkr "Ratio",
  .cls "Ratio",
  .glo "Ratio",
  .glo "WordError",
  .free "list",
  .free "abs",
  .glo "_law_draw",
  .glo "_law_share",
  .glo "_law_pick",
  .glo "_law_number",
  .glo "_law_is_number",
  .glo "_law_pen",
  .free "range",
  .glo "_law_pair",
  .glo "_law_lowest",
  .glo "_law_bent",
  .glo "_law_wrong",
  .glo "_law_heard",
  .glo "law"]
def tfs : List He.Defn := [("law", none)]
def cls (K : Frag) : List (Option Addr) := [some (He.ga K "WordError"), some (He.ga K "BadInput"), none, none, none, none, none, none, none, none, none, some (He.ga K "BadRatio"), none, none, none, none, none, some (He.ga K "BadText"), none, none, none, none, none, none, none, none, none, none, none, none, none, some (He.ga K "Ratio")]
def fas (K : Frag) : List (Option Addr) := [some (He.fAd K ("is_integer", none)), some (He.fAd K ("Ratio", some "__init__")), some (He.fAd K ("figures_told", none)), some (He.fAd K ("parts_told", none)), some (He5.wf K (He.ga K "Ratio") "classmethod" "read"), some (He.fAd K ("Ratio", some "__eq__")), some (He.fAd K ("Ratio", some "__str__")), some (He.fAd K ("_law_heard", none)), some (He.fAd K ("_law_pen", none)), some (He.fAd K ("_law_draw", none)), some (He.fAd K ("_law_pick", none)), some (He.fAd K ("_law_share", none)), some (He.fAd K ("_law_lowest", none)), some (He.fAd K ("_law_number", none)), some (He.fAd K ("_law_pair", none)), some (He.fAd K ("_law_is_number", none)), some (He.fAd K ("_law_wrong", none)), some (He.fAd K ("_law_bent", none)), some (He.fAd K ("law", none)), none, none, none, none, none, none, none, none, none, none, none, none, none, none, none, none, none, none, none, none, none, none, none, none, none, none, none, none, none, none, none, none, none, none, none, none, none, none, none, none, none, none, none, none, none, none, none, none, none, none, none, none, none, none, none, none, none, none, none, none, none, none, none, none, none, none, none, none, none, none, none, none, none, none, none, none, none, none, none, none, none, none, none, none, none, none, none, none, none, none, none, none, none, none, none, none, none, none, none, none, none, none, none, none, none, none, none, none, none, none, none, none, some (He.ga K "Ratio")]
abbrev wd (K : Frag) : Wd := { K := K, cl := mkCl (cls K), fl := mkFl flds, fa := mkFa (fas K) (He.ga K "law"), TT := tts K tfs }
def exl (K : Frag) : List Bool := [cl1 (cls K),
  fasB K (fas K) (He.ga K "law"),
  tt1 (tts K tfs),
  (l_bool).all fun q => decide (kitOne K (tyV (wd K) q.1) (.type "bool") = some q.2),
  (l_int).all fun q => decide (kitOne K (tyV (wd K) q.1) (.type "int") = some q.2),
  xcB K (He.ga K "BadRatio") ["part"] (He.fAd K ("BadRatio", some "__init__")),
  He.eqO (nsIn K mainGlobals "gcd") (some (some (.builtin "math.gcd"))),
  xcB K (He.ga K "BadText") ["line", "word"] (He.fAd K ("BadText", some "__init__")),
  (l_str).all fun q => decide (kitOne K (tyV (wd K) q.1) (.type "str") = some q.2),
  insKB K (He.ga K "Ratio"),
  (l_Ratio).all fun q => decide (kitOne K (tyV (wd K) q.1) (.ref ((wd K).cl 31)) = some q.2),
  decide (findIn K (.ref ((wd K).cl 31)) "__eq__" = some (some (.ref ((wd K).fa 5)))),
  decide (isFn K (.ref ((wd K).fa 5)) = true),
  (kinds).all fun U => decide (subIn K (.type U) (.ref ((wd K).cl 31)) = some false),
  (kinds).all fun U => decide (subIn K (.ref ((wd K).cl 31)) (.type U) = some false),
  decide (findIn K (.ref ((wd K).cl 31)) "__ne__" = some (some (.builtin "object.__ne__"))),
  decide (findIn K (.ref ((wd K).cl 31)) "__str__" = some (some (.ref ((wd K).fa 6)))),
  decide (isFn K (.ref ((wd K).fa 6)) = true),
  (([(11, true), (17, true)] : List (Nat × Bool))).all fun q => decide (exmOne K (.ref ((wd K).cl q.1)) (.ref ((wd K).cl 0)) = some q.2),
  (l_BadText).all fun q => decide (kitOne K (tyV (wd K) q.1) (.ref ((wd K).cl 17)) = some q.2),
  creadB K (He.ga K "Ratio"),
  cmetB K (He.ga K "Ratio") "read"]
theorem fx {P : Program} {w : World} {K : Frag} {h base : Heap} {mg : Str → Option Value} (X : K.In h) (G : h.Ns mainGlobals mg) (Xb : K.In base) (tb : ∀ q ∈ tfs.map (He.cT K), LamX.TabB base mg q.1 q.2) (c : SaysZ fa fn fm tfs exl h K) : Fx P w K mg base (wd K) where
  hK := rfl
  inf := mkFl_inj (l := flds) (by decide +kernel)
  inc := mkCl_inj (exAt c 0 rfl)
  hfa := fas_ok Xb (exAt c 1 rfl)
  nf := mkFl_at
  fln := fun z h1 h2 => mkFl_ne h1 h2
  f_bool := He.free_ok X G (c.d.fact 0 (f := .free "bool") rfl)
  is_bool := all_dec (l := l_bool) (exAt c 3 rfl)
  f_isinstance := He.free_ok X G (c.d.fact 1 (f := .free "isinstance") rfl)
  f_int := He.free_ok X G (c.d.fact 2 (f := .free "int") rfl)
  is_int := all_dec (l := l_int) (exAt c 4 rfl)
  F_is_integer := c.d.def_ 0 rfl
  g_is_integer := He.glo_ok X G (c.d.fact 3 (f := .glo "is_integer") rfl)
  k_is_integer := (c.d.def_ 0 rfl).choose_spec.kp
  x_BadRatio := by
    obtain ⟨fd, F⟩ := c.d.def_ 18 rfl
    exact xcB_ok (W := wd K) (c := 11) (fs := [0]) rfl (exAt c 5 rfl) rfl F sc_BadRatio___init__ rfl (by decide) (by decide) rfl (.inl rfl) (.cons (f := 0) rfl (.inl rfl) rfl rfl .nil) (F.bindsN (fun _ _ _ _ _ _ us hl => match us, hl with | [_, _], _ => rfl))
  g_BadRatio := He.glo_ok X G (c.d.fact 4 (f := .glo "BadRatio") rfl)
  g_gcd := PySem.W.mg_of X G (He.eqO_ok (exAt c 6 rfl))
  n_Ratio_top := He.noat_ok (c.d.fact 5 (f := .noat "Ratio" "top") rfl)
  n_Ratio_bottom := He.noat_ok (c.d.fact 6 (f := .noat "Ratio" "bottom") rfl)
  F_Ratio___init__ := c.d.def_ 1 rfl
  v_FIGURES := He.str_ok X G (c.d.fact 7 (f := .str "FIGURES" "0123456789") rfl)
  f_all := He.free_ok X G (c.d.fact 8 (f := .free "all") rfl)
  F_figures_told := c.d.def_ 2 rfl
  g_figures_told := He.glo_ok X G (c.d.fact 9 (f := .glo "figures_told") rfl)
  k_figures_told := (c.d.def_ 2 rfl).choose_spec.kp
  f_len := He.free_ok X G (c.d.fact 10 (f := .free "len") rfl)
  x_BadText := by
    obtain ⟨fd, F⟩ := c.d.def_ 19 rfl
    exact xcB_ok (W := wd K) (c := 17) (fs := [1, 2]) rfl (exAt c 7 rfl) rfl F sc_BadText___init__ rfl (by decide) (by decide) rfl (.inl rfl) (.cons (f := 1) rfl (.inl rfl) rfl rfl (.cons (f := 2) rfl (.inl rfl) rfl rfl .nil)) (F.bindsN (fun _ _ _ _ _ _ us hl => match us, hl with | [_, _, _], _ => rfl))
  g_BadText := He.glo_ok X G (c.d.fact 11 (f := .glo "BadText") rfl)
  F_parts_told := c.d.def_ 3 rfl
  f_str := He.free_ok X G (c.d.fact 12 (f := .free "str") rfl)
  is_str := all_dec (l := l_str) (exAt c 8 rfl)
  g_parts_told := He.glo_ok X G (c.d.fact 13 (f := .glo "parts_told") rfl)
  k_parts_told := (c.d.def_ 3 rfl).choose_spec.kp
  mk_Ratio := He.mkr_ok (c.d.fact 14 (f := .mkr "Ratio") rfl)
  hc_Ratio := rfl
  i_Ratio := insKB_ok (He.cls_ok (c.d.fact 15 (f := .cls "Ratio") rfl)) (exAt c 9 rfl)
  F_Ratio_read := c.m.def_ 0 rfl
  g_Ratio := He.glo_ok X G (c.d.fact 16 (f := .glo "Ratio") rfl)
  is_Ratio := all_dec (l := l_Ratio) (exAt c 10 rfl)
  F_Ratio___eq__ := c.d.def_ 4 rfl
  F_Ratio___str__ := c.d.def_ 5 rfl
  o_Ratio_eq := ⟨of_decide_eq_true (exAt c 11 rfl), of_decide_eq_true (exAt c 12 rfl)⟩
  sub_Ratio := all_dec (l := kinds) (exAt c 13 rfl)
  sup_Ratio := all_dec (l := kinds) (exAt c 14 rfl)
  ne_Ratio := of_decide_eq_true (exAt c 15 rfl)
  o_Ratio_str := ⟨of_decide_eq_true (exAt c 16 rfl), of_decide_eq_true (exAt c 17 rfl)⟩
  ct_WordError := all_dec (l := ([(11, true), (17, true)] : List (Nat × Bool))) (exAt c 18 rfl)
  g_WordError := He.glo_ok X G (c.d.fact 17 (f := .glo "WordError") rfl)
  is_BadText := all_dec (l := l_BadText) (exAt c 19 rfl)
  F__law_heard := c.d.def_ 6 rfl
  f_list := He.free_ok X G (c.d.fact 18 (f := .free "list") rfl)
  F__law_pen := c.d.def_ 7 rfl
  f_abs := He.free_ok X G (c.d.fact 19 (f := .free "abs") rfl)
  F__law_draw := c.d.def_ 8 rfl
  g__law_draw := He.glo_ok X G (c.d.fact 20 (f := .glo "_law_draw") rfl)
  k__law_draw := (c.d.def_ 8 rfl).choose_spec.kp
  F__law_pick := c.d.def_ 9 rfl
  F__law_share := c.d.def_ 10 rfl
  g__law_share := He.glo_ok X G (c.d.fact 21 (f := .glo "_law_share") rfl)
  k__law_share := (c.d.def_ 10 rfl).choose_spec.kp
  F__law_lowest := c.d.def_ 11 rfl
  g__law_pick := He.glo_ok X G (c.d.fact 22 (f := .glo "_law_pick") rfl)
  k__law_pick := (c.d.def_ 9 rfl).choose_spec.kp
  F__law_number := c.d.def_ 12 rfl
  g__law_number := He.glo_ok X G (c.d.fact 23 (f := .glo "_law_number") rfl)
  k__law_number := (c.d.def_ 12 rfl).choose_spec.kp
  F__law_pair := c.d.def_ 13 rfl
  F__law_is_number := c.d.def_ 14 rfl
  g__law_is_number := He.glo_ok X G (c.d.fact 24 (f := .glo "_law_is_number") rfl)
  k__law_is_number := (c.d.def_ 14 rfl).choose_spec.kp
  F__law_wrong := c.d.def_ 15 rfl
  F__law_bent := c.d.def_ 16 rfl
  g__law_pen := He.glo_ok X G (c.d.fact 25 (f := .glo "_law_pen") rfl)
  k__law_pen := (c.d.def_ 7 rfl).choose_spec.kp
  f_range := He.free_ok X G (c.d.fact 26 (f := .free "range") rfl)
  g__law_pair := He.glo_ok X G (c.d.fact 27 (f := .glo "_law_pair") rfl)
  k__law_pair := (c.d.def_ 13 rfl).choose_spec.kp
  g__law_lowest := He.glo_ok X G (c.d.fact 28 (f := .glo "_law_lowest") rfl)
  k__law_lowest := (c.d.def_ 11 rfl).choose_spec.kp
  cr_Ratio := creadB_ok (exAt c 20 rfl)
  cm_Ratio_read := cmetB_ok (exAt c 21 rfl)
  g__law_bent := He.glo_ok X G (c.d.fact 29 (f := .glo "_law_bent") rfl)
  k__law_bent := (c.d.def_ 16 rfl).choose_spec.kp
  g__law_wrong := He.glo_ok X G (c.d.fact 30 (f := .glo "_law_wrong") rfl)
  k__law_wrong := (c.d.def_ 15 rfl).choose_spec.kp
  g__law_heard := He.glo_ok X G (c.d.fact 31 (f := .glo "_law_heard") rfl)
  F_law := by
    obtain ⟨fd, F⟩ := c.d.def_ 17 rfl
    exact ⟨fd, F, tabL_of (p := ("law", none)) F tb rfl (exAt c 2 rfl) (by decide) rfl⟩
abbrev R0 : PySem.W.OpenRow := PySem.W.OpenLaw.row PySem.Challenge.rw_wordprices_k10_texts_of_ratios
abbrev loose : List Str := (["_wall", "__name__", "FIGURES", "is_integer", "WordError", "ValueError", "BadInput", "BadRatio", "BadText", "parts_of", "parts_over", "Ratio", "figures_told", "parts_told", "_law_pen", "_law_draw", "_law_pick", "_law_share", "_law_lowest", "_law_number", "_law_pair", "_law_heard", "_law_is_number", "_law_wrong", "_law_bent"] : List Str)
abbrev hk : PySem.W.Hook := hookZ 6 fa fn fm tfs exl
def ob (s : PySem.W.SharedT) : AlZ := obsZ 6 fa fn fm tfs exl (HandSHeadRun.getT s)
theorem ob_eq (s : PySem.W.SharedT) : ob s = hk.obs s.abs := obsZ_eq (HandSHeadRun.getT_eq s)
theorem run (w : World) : HandSHeadRun.RunEqI R0 (PySem.W.view R0.prog [0, 28]) hk ob 20000 loose w := by
  unfold HandSHeadRun.RunEqI
  kernel_rfl
theorem facts {P : Program} {w : World} {K : Frag} {h : Heap} {mg : Str → Option Value} {f : Addr} (X : K.In h) (G : h.Ns mainGlobals mg) (hf : mg ("law" : Str) = some (.ref f)) (c : SaysZ fa fn fm tfs exl h K) :
    ∃ fd : FuncData, (∀ (s : Shared) (v : Value), BindsTo s fd ⟨[v], []⟩ [("_law_script", v)]) ∧ ∀ base : Heap, K.In base → base.Ns mainGlobals mg → (∀ q ∈ tfs.map (He.cT K), LamX.TabB base mg q.1 q.2) → Wp.FnG P w K mg base 16 f fd ["_law_script"] (spT (wd K) false g_law) := by
  obtain ⟨fd, F⟩ := c.d.def_ 17 rfl
  have e := hf.symm.trans (He.glo_ok X G (x := "law") (c.d.fact 32 (f := .glo "law") rfl))
  cases e
  have b := FunD.bindsA (ps := ["_law_script"]) F (fun _ _ _ _ _ _ us hl => match us, hl with | [_], _ => rfl)
  refine ⟨fd, fun s v => b s [v] rfl, fun base Xb _ tb => ?_⟩
  obtain ⟨fd2, F2, G2⟩ := ok_law (fx (P := P) X G Xb tb c)
  rw [funD_uniq (f := He.fAd K ("law", none)) F F2]
  exact G2
end Dl
open PySem PySem.W PySem.Calls PyProof.Rows
theorem PySem.Challenge.cw_wordprices_k10_texts_of_ratios_holds : PySem.Challenge.rw_wordprices_k10_texts_of_ratios.Holds := by
  w_on; o_law
  refine HandSHeadRun.head_imp (r := OpenLaw.row PySem.Challenge.rw_wordprices_k10_texts_of_ratios) (q := view (OpenLaw.row PySem.Challenge.rw_wordprices_k10_texts_of_ratios).prog [0, 28]) (H := Dl.hk) (ob := Dl.ob) (M := 20000) (loose := Dl.loose) (d := HandSHeadRun.topDef (OpenLaw.row PySem.Challenge.rw_wordprices_k10_texts_of_ratios).prog 28) (kwd := []) Dl.ob_eq
    Dl.run (by kernel_rfl) (by kernel_rfl) (by kernel_rfl) (by rfl) (by first | assumption | decide +kernel) (by decide +kernel) ⟨rfl, rfl, rfl, rfl, rfl, by decide +kernel⟩ ?hw ?hc
  case hw => w_witness2
  case hc =>
    refine Dl.walk_gT (l := PySem.Challenge.rw_wordprices_k10_texts_of_ratios) (n := 63) (k := 16) (x := "_law_script") rfl (by decide) (by kernel_rfl) ⟨rfl, by decide, by decide⟩ ?F
    · intro w mg fa h Y G hmg0
      obtain ⟨K, KX, c⟩ := Y
      have hmg : mg ("law" : PySem.Str) = some (.ref fa) := by
        have e : (HandSHeadRun.topDef (OpenLaw.row PySem.Challenge.rw_wordprices_k10_texts_of_ratios).prog 28).name = ("law" : PySem.Str) := by kernel_rfl
        rw [← e]
        exact hmg0
      obtain ⟨fd, hb, hF⟩ := Dl.facts (P := (PySem.Challenge.rw_wordprices_k10_texts_of_ratios).prog) (w := w) KX G hmg c
      obtain ⟨t1, t2, t3⟩ := Dl.tabs_at KX c
      refine ⟨K, fd, Dl.spT (Dl.wd K) false Dl.g_law, Dl.tfs.map (He.cT K), KX, hb, t1, t2, t3, fun H a ns hl hbits hT hS => ?_, hF⟩
      obtain ⟨outs, e⟩ := Dl.law_true ns hl hbits
      exact Dl.law_sp hT Dl.tts_ht hS e

