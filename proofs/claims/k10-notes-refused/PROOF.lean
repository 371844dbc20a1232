import PyProof.Rows.All
import Wide.All
import OpenK.AllK
import Wide.FinOn
import HandS.ForMost
import HandS.ForExc
import HandS.Evl
import HandS.EndBits
import HandS.WideBits
import HandS.SortKw
import HandS.SortInts
import HandS.IsInst
import HandS.Conv
import HandS.Codes
import HandS.Style
import HandS.Zip
import HandS.More
import HandS.ExcIs
import HandS.TryMany
import HandS.RevTup
import HandS.Rev
import HandS.Text
import HandS.ExcInit
import HandS.ExcField
import KE.KIsAll
import KE.KExcIs
import KE.KTryMore
import HandS.ExcValue
import PySem.Challenge.RW_pursewise_k10_notes_refused
set_option Elab.async false
set_option linter.all false
set_option maxRecDepth 100000
set_option maxHeartbeats 4000000
/-! Px: a small calculus of our own over HandS: what a reading does from a heap that may have grown (Kc), told by the smallest heap that matters. -/
namespace Px
open PySem PySem.Spec PyProof.Rows L2 Evl

/-! ### heaps -/
theorem Ex.updm {H H1 : Hp} {l : Addr} {o : HO} (e : Ex H H1) : Ex (upd H l o) (upd H1 l o) := fun a u h => by
  by_cases ha : a = l
  · subst ha
    rw [upd_same] at h ⊢
    exact h
  · rw [upd_ne ha] at h ⊢
    exact e a u h
theorem Ex.put {H H1 : Hp} {l : Addr} {o : HO} (e : Ex H H1) (h : H1 l = some o) : Ex (upd H l o) H1 := fun a u q => by
  by_cases ha : a = l
  · subst ha
    rw [upd_same] at q
    rw [h]
    exact q
  · rw [upd_ne ha] at q
    exact e a u q
theorem sq_up {K : PySem.W.Frag} {H : Hp} {a p : Addr} {xs : List V} {o : HO} (h : SqL K H a xs) (hp : H p = none) : SqL K (upd H p o) a xs := ex_l (Ex.new hp) h
/-- an object that stands, behind a new one at p -/
theorem at_up {H : Hp} {a p : Addr} {o u : HO} (h : H a = some u) (hp : H p = none) : upd H p o a = some u := by
  rw [upd_ne (ne_of_none h hp)]
  exact h
theorem none_of_up {H : Hp} {q p : Addr} {o : HO} (h : upd H p o q = none) : H q = none ∧ q ≠ p := by
  by_cases e : q = p
  · subst e
    rw [upd_same] at h
    cases h
  · rw [upd_ne e] at h
    exact ⟨h, e⟩

/-! ### a def of the module as its callers use it -/
structure Cl (P : Program) (w : World) (K : PySem.W.Frag) (mg : Str → Option Value) (base : Heap) (CX : CXT) (k : Nat) (x : Str) (f : Addr) (fd : FuncData) (ps : List Str) (sp : Sp) : Prop where
  ok : FnOk P w K mg base CX k f fd ps sp
  gl : mg x = some (.ref f)
  kp : PySem.W.keepIn K (.ref f) = true
  bd : Binds K fd ps []

/-! ### sizes of whole numbers: below 2 ^ n in size -/
def Bd (n : Nat) (i : Int) : Prop := i.natAbs < 2 ^ n
theorem Bd.mono {n m : Nat} {i : Int} (h : Bd n i) (k : n ≤ m) : Bd m i := Nat.lt_of_lt_of_le h (Nat.pow_le_pow_right (by decide) k)
theorem Bd.add {n m : Nat} {i j : Int} (h : Bd n i) (k : Bd m j) : Bd (max n m + 1) (i + j) := by
  have h1 : i.natAbs < 2 ^ max n m := h.mono (Nat.le_max_left _ _)
  have h2 : j.natAbs < 2 ^ max n m := k.mono (Nat.le_max_right _ _)
  unfold Bd
  rw [Nat.pow_succ]
  omega
theorem Bd.sub {n m : Nat} {i j : Int} (h : Bd n i) (k : Bd m j) : Bd (max n m + 1) (i - j) := by
  have h1 : i.natAbs < 2 ^ max n m := h.mono (Nat.le_max_left _ _)
  have h2 : j.natAbs < 2 ^ max n m := k.mono (Nat.le_max_right _ _)
  unfold Bd
  rw [Nat.pow_succ]
  omega
theorem Bd.mul {n m : Nat} {i j : Int} (h : Bd n i) (k : Bd m j) : Bd (n + m) (i * j) := by
  unfold Bd at *
  rw [Int.natAbs_mul, Nat.pow_add]
  exact Nat.mul_lt_mul'' h k
theorem Bd.mod {n : Nat} {i j : Int} (k : Bd n j) (h : 0 < j) : Bd n (i % j) := by
  have h1 := Int.emod_nonneg i (show j ≠ 0 by omega)
  have h2 := Int.emod_lt_of_pos i h
  unfold Bd at k ⊢
  omega
theorem Bd.div {n : Nat} {i j : Int} (h : Bd n i) : Bd n (i / j) := Nat.lt_of_le_of_lt (Int.natAbs_ediv_le_natAbs i j) h
theorem Bd.mulX {n m : Nat} {i j : Int} (h : Bd n i) (k : Bd m j) (hl : n + m ≤ 134217728) : CMulX i j := mulx_ok h k hl
theorem Bd.bits {n : Nat} {i : Int} (h : Builtin.Int.intBits i ≤ n) : Bd n i := by
  unfold Bd
  unfold Builtin.Int.intBits at h
  split at h
  · rename_i z
    have z2 : i = 0 := by simpa using z
    rw [z2]
    exact Nat.pow_pos (by decide)
  · have h2 : i.natAbs < 2 ^ (i.natAbs.log2 + 1) := Nat.lt_log2_self
    exact Nat.lt_of_lt_of_le h2 (Nat.pow_le_pow_right (by decide) h)
theorem Bd.le {n : Nat} {i j : Int} (h : i.natAbs ≤ j.natAbs) (k : Bd n j) : Bd n i := Nat.lt_of_le_of_lt h k
theorem bd_lit (i : Int) : Bd (i.natAbs.log2 + 1) i := Nat.lt_log2_self
theorem Bd.ite {n : Nat} {c : Prop} [Decidable c] {i j : Int} (h : Bd n i) (k : Bd n j) : Bd n (if c then i else j) := by
  split
  · exact h
  · exact k

/-! ### rules that name the written part K by itself (so that a comprehension's element can bear them) -/
section
variable {X : Cx} {K : PySem.W.Frag}
theorem ixl (h : X.K = K := by rfl) : IxR X (rIxL K) := h ▸ ix_list
theorem ixt (h : X.K = K := by rfl) : IxR X (rIxT K) := h ▸ ix_tup
theorem sll (h : X.K = K := by rfl) : SlR X (rSlL K) := h ▸ sl_list
theorem slt (h : X.K = K := by rfl) : SlR X (rSlT K) := h ▸ sl_tup
def rLn (K : PySem.W.Frag) : List V → Hp → VK → Prop := fun xs H Q => ∃ p ys, xs = [.ref p] ∧ (SqL K H p ys ∨ SqT K H p ys) ∧ Q (.int ys.length) H
theorem bLen (h : X.K = K := by rfl) : CallR X (.builtin "len") (rLn K) := h ▸ call_len_seq
def rLs (K : PySem.W.Frag) : List V → Hp → VK → Prop := fun xs H Q => ∃ p ys, xs = [.ref p] ∧ (SqL K H p ys ∨ SqT K H p ys) ∧ ∀ l, H l = none → Q (.ref l) (upd H l (.lst ys))
theorem bList (h : X.K = K := by rfl) : CallR X (.type "list") (rLs K) := h ▸ call_list_of
theorem bSum (hc : X.calm = true) (h : X.K = K := by rfl) : CallR X (.builtin "sum") (rSum K) := h ▸ cr_sum hc
theorem bMin (hc : X.calm = true) (h : X.K = K := by rfl) : CallR X (.builtin "min") (rMin K) := h ▸ cr_min hc
theorem bMax (hc : X.calm = true) (h : X.K = K := by rfl) : CallR X (.builtin "max") (rMax K) := h ▸ cr_max hc
theorem bIsi (h : X.K = K := by rfl) : CallR X (.builtin "isinstance") (rIsi K) := h ▸ call_isi
theorem bSrt (h : X.K = K := by rfl) : CallR X (.builtin "sorted") (rSortedI K) := h ▸ cr_sortedI
theorem bSrtR (h : X.K = K := by rfl) : CallRK X (.builtin "sorted") [Str.ofString "reverse"] (rSortedKw K true [.bl true]) := h ▸ cr_sortedRev
theorem oEqD (hu : X.A.units + 64 < cLine) (h : X.K = K := by rfl) : OpR X (compareOp .Eq) (rEqD K) := h ▸ op_eqD hu
theorem oNeD (hu : X.A.units + 64 < cLine) (h : X.K = K := by rfl) : OpR X (compareOp .NotEq) (rNeD K) := h ▸ op_neD hu
theorem piL {tg l : Expr} {tl : TE} (hl : PE X l tl) (h : X.K = K := by rfl) : PI X tg l (iList K tl) := h ▸ pi_list hl
theorem piT {tg l : Expr} {tl : TE} (hl : PE X l tl) (h : X.K = K := by rfl) : PI X tg l (iTup K tl) := h ▸ pi_tup hl
theorem piZ {e e2 : Expr} {ta : TA} {p pos tpos : Pos} {elts : List Expr} {kk : Nat} (hg : Gl X "zip") (hm : X.mg "zip" = none) (ha : PA X [e, e2] ta) (h : X.K = K := by rfl)
    (hs : starEach [e, e2] X.env = (false, eval e X.env) :: starEach [e2] X.env := by rfl) (hpl : (backTo pos (starEach [e2] X.env)).any (·.1) = false := by rfl) :
    PI X (.Tuple elts kk tpos) (.Call (.Name "zip" p) [e, e2] [] pos) (iZip K ta) := h ▸ pi_zip hg hm ha hs hpl
theorem peBm {o e : Expr} {es : List Expr} {to : TE} {t : TA} {name : Str} {apos cpos : Pos} {T id : String} {r : V → List V → Hp → VK → Prop} (pa : PlainAttrs T) (slot : Slot T name id) (hty : typeOf (.builtin id) = pure (.type "method_descriptor")) (hm : MtR X id r) (ho : PE X o to) (ha : PA X (e :: es) t) (h : X.K = K := by rfl)
    (hbase : attributeBase o name X.env (eval o X.env) = eval o X.env := by rfl) (hline : (apos.endLine == cpos.line) = true := by rfl)
    (hs : starEach (e :: es) X.env = (false, eval e X.env) :: starEach es X.env := by rfl)
    (hfew : ((((backTo cpos (starEach (e :: es) X.env)).all fun x => !x.1) && (backToKw cpos (keywordEach [] X.env)).all fun x => x.1.isSome) && decide (((e :: es).length + ([] : List Keyword).length + if ([] : List Keyword).isEmpty then 0 else 1) < 30)) = true := by rfl)
    (hpl : (backTo cpos (starEach es X.env)).any (·.1) = false := by rfl) : PE X (.Call (.Attribute o name apos) (e :: es) [] cpos) (tBM K T r to t) := h ▸ pe_bm pa slot hty hm ho ha hbase hfew hline hs hpl
theorem peBm0 {o : Expr} {to : TE} {name : Str} {apos cpos : Pos} {T id : String} {r : V → List V → Hp → VK → Prop} (pa : PlainAttrs T) (slot : Slot T name id) (hty : typeOf (.builtin id) = pure (.type "method_descriptor")) (hm : MtR X id r) (ho : PE X o to) (h : X.K = K := by rfl)
    (hbase : attributeBase o name X.env (eval o X.env) = eval o X.env := by rfl) (hline : (apos.endLine == cpos.line) = true := by rfl) : PE X (.Call (.Attribute o name apos) [] [] cpos) (tBM0 K T r to) := h ▸ pe_bm0 pa slot hty hm ho hbase hline
theorem pgT {es : List Expr} {k : Nat} {pos : Pos} {t : TGs} {n : Nat} (hc : X.calm = true) (hh : PGs X es t) (h : X.K = K := by rfl)
    (hn : (assignEach es X.env).length = n := by rfl) (hst : (assignEach es X.env).findIdx? (·.1) = none := by rfl) : PG X (.Tuple es k pos) (gTup K n t) := h ▸ pg_tup hc hh hn hst
end

/-! ### the calculus -/
def Kc {α : Type} (m : Hp → (α → Hp → Prop) → Prop) (H : Hp) (P : α → Hp → Prop) : Prop := ∀ H1, Ex H H1 → ∀ Q : α → Hp → Prop, (∀ v H2, (∃ Hx, Ex Hx H2 ∧ P v Hx) → Q v H2) → m H1 Q
theorem kc_pure {α : Type} {v : α} {H : Hp} {P : α → Hp → Prop} (h : P v H) : Kc (fun H Q => Q v H) H P := fun H1 e _ k => k v H1 ⟨H, e, h⟩
theorem kc_bind {α β : Type} {m : Hp → (α → Hp → Prop) → Prop} {f : α → Hp → (β → Hp → Prop) → Prop} {H : Hp} {P : β → Hp → Prop} (h : Kc m H fun v Hx => Kc (f v) Hx P) : Kc (fun H Q => m H fun v H1 => f v H1 Q) H P := fun H1 e Q k =>
  h H1 e _ fun v H2 ⟨_, ex, hf⟩ => hf H2 ex Q k
theorem Kc.mono {α : Type} {m : Hp → (α → Hp → Prop) → Prop} {H H' : Hp} {P : α → Hp → Prop} (e : Ex H H') (h : Kc m H P) : Kc m H' P := fun H1 a Q k => h H1 (e.trans a) Q k
theorem Kc.imp {α : Type} {m : Hp → (α → Hp → Prop) → Prop} {H : Hp} {P P' : α → Hp → Prop} (h : Kc m H P) (i : ∀ v Hx, P v Hx → P' v Hx) : Kc m H P' := fun H1 a Q k => h H1 a Q fun v H2 ⟨Hx, ex, p⟩ => k v H2 ⟨Hx, ex, i v Hx p⟩
abbrev EvK (te : TE) (σ : L2.St) (H : Hp) (P : V → Hp → Prop) : Prop := Kc (te σ) H P
abbrev EvAK (ta : TA) (σ : L2.St) (H : Hp) (P : List V → Hp → Prop) : Prop := Kc (ta σ) H P
abbrev EvTK (tt : TT) (σ : L2.St) (H : Hp) (P : Bool → Hp → Prop) : Prop := Kc (tt σ) H P
abbrev EvOK (to : TO) (σ : L2.St) (H : Hp) (P : Option Int → Hp → Prop) : Prop := Kc (to σ) H P
abbrev RK (r : R2) (x y : V) (H : Hp) (P : V → Hp → Prop) : Prop := Kc (r x y) H P
abbrev CK (r : List V → Hp → VK → Prop) (vs : List V) (H : Hp) (P : V → Hp → Prop) : Prop := Kc (r vs) H P
abbrev MK (r : V → List V → Hp → VK → Prop) (x : V) (vs : List V) (H : Hp) (P : V → Hp → Prop) : Prop := Kc (r x vs) H P
def SpK (sp : Sp) (vs : List V) (H : Hp) (P : V → Hp → Prop) : Prop := ∀ E : XK, Kc (fun H Q => sp vs H Q E) H P
def Go (t : TS) (D : Ends) (σ : L2.St) (H : Hp) : Prop := ∀ H1, Ex H H1 → t D σ H1
/-- what is wished of a value at a heap that may have grown -/
def KQ (Q : VK) (v : V) (Hx : Hp) : Prop := ∀ H1, Ex Hx H1 → Q v H1
theorem KQ.up {Q : VK} {v : V} {H H' : Hp} (h : KQ Q v H) (e : Ex H H') : KQ Q v H' := fun H1 a => h H1 (e.trans a)
section
variable {K : PySem.W.Frag} {σ : L2.St} {H H' : Hp} {ta tb tc te tx : TE} {t u : TT} {x y z v : V} {r r' : R2} {P : V → Hp → Prop} {D : Ends}

/-! ### expressions -/
theorem k_var {i : Nat} (h : σ[i]? = some (some v)) (hp : P v H) : EvK (tVar i) σ H P := fun H1 e _ k => ⟨v, h, k v H1 ⟨H, e, hp⟩⟩
theorem k_c (hp : P v H) : EvK (tC v) σ H P := kc_pure hp
theorem k_op (h : EvK ta σ H fun x Hx => EvK tb σ Hx fun y Hy => RK r x y Hy P) : EvK (tOp r ta tb) σ H P := kc_bind (f := fun x H1 Q => tb σ H1 fun y H2 => r x y H2 Q) (h.imp fun _ _ h2 => kc_bind h2)
theorem k_un {ru : V → Hp → VK → Prop} (h : EvK ta σ H fun x Hx => Kc (ru x) Hx P) : EvK (tUn ru ta) σ H P := kc_bind (f := fun x H1 Q => ru x H1 Q) h
theorem k_cb {rc : List V → Hp → VK → Prop} {tl : TA} (h : EvAK tl σ H fun vs Hx => CK rc vs Hx P) : EvK (tCB rc tl) σ H P := kc_bind (f := fun vs H1 Q => rc vs H1 Q) h
theorem k_ckw {rc : List V → List V → Hp → VK → Prop} {tl tk : TA} (h : EvAK tl σ H fun vs Hx => EvAK tk σ Hx fun zs Hz => Kc (rc vs zs) Hz P) : EvK (tCKw rc tl tk) σ H P := kc_bind (f := fun vs H1 Q => tk σ H1 fun zs H2 => rc vs zs H2 Q) (h.imp fun _ _ h2 => kc_bind h2)
theorem k_call {sp : Sp} {dvs : List V} {E : XK} {tl : TA} (h : EvAK tl σ H fun vs Hx => SpK sp (vs ++ dvs) Hx P) : EvK (tCall sp dvs E tl) σ H P := kc_bind (f := fun vs H1 Q => sp (vs ++ dvs) H1 Q E) (h.imp fun _ _ h2 => h2 E)
theorem k_nil {PA : List V → Hp → Prop} (h : PA [] H) : EvAK tNil σ H PA := kc_pure h
theorem k_cons {tr : TA} {PA : List V → Hp → Prop} (h : EvK ta σ H fun x Hx => EvAK tr σ Hx fun vs Hy => PA (x :: vs) Hy) : EvAK (tCons ta tr) σ H PA :=
  kc_bind (f := fun x H1 Q => tr σ H1 fun xs H2 => Q (x :: xs) H2) (h.imp fun x _ h2 => kc_bind (f := fun xs H2 Q => Q (x :: xs) H2) (h2.imp fun _ _ h3 => kc_pure h3))
theorem k_tup {tl : TA} (h : EvAK tl σ H fun vs Hx => vs.length ≤ 100000 ∧ ∀ p, Hx p = none → P (.ref p) (upd Hx p (.tup vs))) : EvK (tTup tl) σ H P :=
  fun H1 e Q k => h H1 e _ fun vs H2 ⟨Hx, ex, hl, hp⟩ => ⟨sz_of hl, fun p np => k _ _ ⟨_, Ex.updm ex, hp p (fresh_back ex np)⟩⟩
theorem k_lst {tl : TA} (h : EvAK tl σ H fun vs Hx => vs.length ≤ 100000 ∧ ∀ p, Hx p = none → P (.ref p) (upd Hx p (.lst vs))) : EvK (tLst tl) σ H P :=
  fun H1 e Q k => h H1 e _ fun vs H2 ⟨Hx, ex, hl, hp⟩ => ⟨sz_of hl, fun p np => k _ _ ⟨_, Ex.updm ex, hp p (fresh_back ex np)⟩⟩
theorem k_chain (h : EvK ta σ H fun x Hx => EvK tb σ Hx fun y Hy => RK r x y Hy fun z Hz => ∃ b, z = .bl b ∧ (b = true → EvK tc σ Hz fun w Hw => RK r' y w Hw P) ∧ (b = false → P (.bl false) Hz)) : EvK (tChain r r' ta tb tc) σ H P :=
  fun H1 e Q k => h H1 e _ fun x H2 ⟨Hx, ex, h2⟩ => h2 H2 ex _ fun y H3 ⟨Hy, ey, h3⟩ => h3 H3 ey _ fun z H4 ⟨Hz, ez, b, eb, ht, hf⟩ => ⟨b, eb, by
    cases b with
    | true =>
      rw [if_pos rfl]
      exact ht rfl H4 ez _ fun w H5 ⟨Hw, ew, h5⟩ => h5 H5 ew Q k
    | false =>
      rw [if_neg Bool.false_ne_true]
      exact k _ _ ⟨Hz, ez, hf rfl⟩⟩
theorem k_andV (h : EvK ta σ H fun x Hx => ∃ b, x = .bl b ∧ (b = true → EvK tb σ Hx P) ∧ (b = false → P (.bl false) Hx)) : EvK (tAndV ta tb) σ H P :=
  fun H1 e Q k => h H1 e _ fun x H2 ⟨Hx, ex, b, eb, ht, hf⟩ => ⟨b, eb, by
    cases b with
    | true =>
      rw [if_pos rfl]
      exact ht rfl H2 ex Q k
    | false =>
      rw [if_neg Bool.false_ne_true]
      exact k _ _ ⟨Hx, ex, hf rfl⟩⟩
theorem k_orV (h : EvK ta σ H fun x Hx => ∃ b, x = .bl b ∧ (b = true → P (.bl true) Hx) ∧ (b = false → EvK tb σ Hx P)) : EvK (tOrV ta tb) σ H P :=
  fun H1 e Q k => h H1 e _ fun x H2 ⟨Hx, ex, b, eb, ht, hf⟩ => ⟨b, eb, by
    cases b with
    | true =>
      rw [if_pos rfl]
      exact k _ _ ⟨Hx, ex, ht rfl⟩
    | false =>
      rw [if_neg Bool.false_ne_true]
      exact hf rfl H2 ex Q k⟩
theorem k_notV (h : EvK ta σ H fun x Hx => ∃ b, x = .bl b ∧ P (.bl (!b)) Hx) : EvK (tNotV ta) σ H P :=
  fun H1 e Q k => h H1 e _ fun x H2 ⟨Hx, ex, b, eb, hp⟩ => ⟨b, eb, k _ _ ⟨Hx, ex, hp⟩⟩
theorem k_sl {rs : V → Option Int → Option Int → Hp → VK → Prop} {tl th : TO} (h : EvK te σ H fun x Hx => EvOK tl σ Hx fun l Hl => EvOK th σ Hl fun u Hu => Kc (rs x l u) Hu P) : EvK (tSl rs te tl th) σ H P :=
  fun H1 e Q k => h H1 e _ fun x H2 ⟨_, ex, h2⟩ => h2 H2 ex _ fun l H3 ⟨_, el, h3⟩ => h3 H3 el _ fun u H4 ⟨_, eu, h4⟩ => h4 H4 eu Q k
theorem k_nopart {PO : Option Int → Hp → Prop} (h : PO none H) : EvOK tNoPart σ H PO := kc_pure h
theorem k_part {PO : Option Int → Hp → Prop} (h : EvK te σ H fun x Hx => ∃ i, x = .int i ∧ PO (some i) Hx) : EvOK (tPart te) σ H PO :=
  fun H1 e Q k => h H1 e _ fun x H2 ⟨Hx, ex, i, ei, hp⟩ => ⟨i, ei, k _ _ ⟨Hx, ex, hp⟩⟩
theorem k_bm {T : String} {rm : V → List V → Hp → VK → Prop} {tl : TA} (h : EvK ta σ H fun x Hx => (∀ H1, Ex Hx H1 → tyV K T x H1) ∧ EvAK tl σ Hx fun vs Hy => MK rm x vs Hy P) : EvK (tBM K T rm ta tl) σ H P :=
  fun H1 e Q k => h H1 e _ fun x H2 ⟨Hx, ex, hty, h2⟩ => ⟨hty H2 ex, h2 H2 ex _ fun vs H3 ⟨Hy, ey, h3⟩ => h3 H3 ey Q k⟩
theorem k_bm0 {T : String} {rm : V → List V → Hp → VK → Prop} (h : EvK ta σ H fun x Hx => (∀ H1, Ex Hx H1 → tyV K T x H1) ∧ MK rm x [] Hx P) : EvK (tBM0 K T rm ta) σ H P :=
  fun H1 e Q k => h H1 e _ fun x H2 ⟨Hx, ex, hty, h2⟩ => ⟨hty H2 ex, h2 H2 ex Q k⟩
theorem tyl {a : Addr} {xs : List V} (h : SqL K H a xs) : ∀ H1, Ex H H1 → tyV K "list" (.ref a) H1 := fun H1 e => Or.inl ⟨rfl, _, ex_l e h⟩

/-! ### tests -/
theorem kt_test {PB : Bool → Hp → Prop} (h : EvK te σ H fun x Hx => ∃ b, x = .bl b ∧ PB b Hx) : EvTK (tTest te) σ H PB := fun H1 e Q k => h H1 e _ fun x H2 ⟨Hx, ex, b, eb, hp⟩ => ⟨b, eb, k _ _ ⟨Hx, ex, hp⟩⟩
theorem kt_B {PB : Bool → Hp → Prop} (h : EvK te σ H fun x Hx => ∃ b, x = .bl b ∧ PB b Hx) : EvTK (tB te) σ H PB := fun H1 e Q k => h H1 e _ fun x H2 ⟨Hx, ex, b, eb, hp⟩ => ⟨b, eb, k _ _ ⟨Hx, ex, hp⟩⟩
theorem kt_yes {PB : Bool → Hp → Prop} (h : PB true H) : EvTK tYes σ H PB := kc_pure h
theorem kt_and {PB : Bool → Hp → Prop} (h : EvTK t σ H fun b Hx => (b = true → EvTK u σ Hx PB) ∧ (b = false → PB false Hx)) : EvTK (tAnd t u) σ H PB := fun H1 e Q k => h H1 e _ fun b H2 ⟨Hx, ex, ht, hf⟩ => by
  cases b with
  | true =>
    rw [if_pos rfl]
    exact ht rfl H2 ex Q k
  | false =>
    rw [if_neg Bool.false_ne_true]
    exact k _ _ ⟨Hx, ex, hf rfl⟩
theorem kt_or {PB : Bool → Hp → Prop} (h : EvTK t σ H fun b Hx => (b = true → PB true Hx) ∧ (b = false → EvTK u σ Hx PB)) : EvTK (tOr t u) σ H PB := fun H1 e Q k => h H1 e _ fun b H2 ⟨Hx, ex, ht, hf⟩ => by
  cases b with
  | true =>
    rw [if_pos rfl]
    exact k _ _ ⟨Hx, ex, ht rfl⟩
  | false =>
    rw [if_neg Bool.false_ne_true]
    exact hf rfl H2 ex Q k
theorem kt_not {PB : Bool → Hp → Prop} (h : EvTK t σ H fun b Hx => PB (!b) Hx) : EvTK (tNot t) σ H PB := fun H1 e Q k => h H1 e _ fun b H2 ⟨Hx, ex, hp⟩ => k _ _ ⟨Hx, ex, hp⟩

/-! ### operations on values -/
theorem r_I0 {g : Int → Int → V} {i j : Int} (h : P (g i j) H) : RK (rI0 g) (.int i) (.int j) H P := fun H1 e Q k => ⟨i, j, rfl, rfl, k _ _ ⟨H, e, h⟩⟩
theorem r_I {C : Int → Int → Prop} {g : Int → Int → V} {i j : Int} (h : C i j ∧ P (g i j) H) : RK (rI C g) (.int i) (.int j) H P := fun H1 e Q k => ⟨i, j, rfl, rfl, h.1, k _ _ ⟨H, e, h.2⟩⟩
theorem r_I' {C : Int → Int → Prop} {g : Int → Int → V} {i j : Int} (h : P (g i j) H) (hc : C i j) : RK (rI C g) (.int i) (.int j) H P := r_I ⟨hc, h⟩
theorem r_eq (h : scal x y = true ∧ P (.bl (decide (x = y))) H) : RK rEq x y H P := fun H1 e Q k => ⟨h.1, k _ _ ⟨H, e, h.2⟩⟩
theorem r_ne (h : scal x y = true ∧ P (.bl (!decide (x = y))) H) : RK rNe x y H P := fun H1 e Q k => ⟨h.1, k _ _ ⟨H, e, h.2⟩⟩
theorem r_eqI {i j : Int} (h : P (.bl (decide (i = j))) H) : RK rEq (.int i) (.int j) H P := r_eq ⟨rfl, by
  have e : decide (V.int i = V.int j) = decide (i = j) := by
    by_cases c : i = j
    · subst c
      rw [decide_eq_true rfl, decide_eq_true rfl]
    · rw [decide_eq_false c, decide_eq_false fun z => c (V.int.inj z)]
  rw [e]
  exact h⟩
theorem r_neI {i j : Int} (h : P (.bl (!decide (i = j))) H) : RK rNe (.int i) (.int j) H P := r_ne ⟨rfl, by
  have e : decide (V.int i = V.int j) = decide (i = j) := by
    by_cases c : i = j
    · subst c
      rw [decide_eq_true rfl, decide_eq_true rfl]
    · rw [decide_eq_false c, decide_eq_false fun z => c (V.int.inj z)]
  rw [e]
  exact h⟩
theorem r_neg {i : Int} (h : P (.int (-i)) H) : Kc (rU (fun i => V.int (-i)) (.int i)) H P := fun H1 e Q k => ⟨i, rfl, k _ _ ⟨H, e, h⟩⟩
theorem r_ixL {p : Addr} {xs : List V} {i : Int} (h : SqL K H p xs) (ha : atI xs i = some v) (hp : P v H) : RK (rIxL K) (.ref p) (.int i) H P := fun H1 e Q k => ⟨p, xs, i, v, rfl, rfl, ex_l e h, ha, k _ _ ⟨H, e, hp⟩⟩
theorem r_ixT {p : Addr} {xs : List V} {i : Int} (h : SqT K H p xs) (ha : atI xs i = some v) (hp : P v H) : RK (rIxT K) (.ref p) (.int i) H P := fun H1 e Q k => ⟨p, xs, i, v, rfl, rfl, ex_t e h, ha, k _ _ ⟨H, e, hp⟩⟩
theorem r_slL {p : Addr} {xs : List V} {lo hi : Option Int} (h : SqL K H p xs) (hp : ∀ q, H q = none → P (.ref q) (upd H q (.lst (cutV xs lo hi)))) : Kc (rSlL K (.ref p) lo hi) H P := fun H1 e Q k => ⟨p, xs, rfl, ex_l e h, fun q nq => k _ _ ⟨_, Ex.updm e, hp q (fresh_back e nq)⟩⟩
theorem r_isN (h : P (.bl (decide (x = .non))) H) : RK (fun x y H Q => y = .non ∧ Q (.bl (decide (x = .non))) H) x .non H P := fun H1 e Q k => ⟨rfl, k _ _ ⟨H, e, h⟩⟩
theorem r_notN (h : P (.bl (!decide (x = .non))) H) : RK (fun x y H Q => y = .non ∧ Q (.bl (!decide (x = .non))) H) x .non H P := fun H1 e Q k => ⟨rfl, k _ _ ⟨H, e, h⟩⟩
theorem r_isB {a b : Bool} (h : P (.bl (decide (a = b))) H) : RK rIsB (.bl a) (.bl b) H P := fun H1 e Q k => ⟨a, b, rfl, rfl, k _ _ ⟨H, e, h⟩⟩
mutual
theorem dp_ex {H H1 : Hp} (e : Ex H H1) : ∀ {v : V} {d : PyData}, Dp K H v d → Dp K H1 v d
  | _, _, .non => .non
  | _, _, .bl b => .bl b
  | _, _, .int i => .int i
  | _, _, .str x => .str x
  | _, _, .lst h k => .lst (ex_l e h) (dpa_ex e k)
  | _, _, .tup h k => .tup (ex_t e h) (dpa_ex e k)
theorem dpa_ex {H H1 : Hp} (e : Ex H H1) : ∀ {vs : List V} {ds : List PyData}, DpAll K H vs ds → DpAll K H1 vs ds
  | _, _, .nil => .nil
  | _, _, .cons h k => .cons (dp_ex e h) (dpa_ex e k)
end
theorem r_eqD {d d' : PyData} (h1 : Dp K H x d) (h2 : Dp K H y d') (s1 : SeqAt.shaped d = true) (s2 : SeqAt.shaped d' = true) (hp : P (.bl (PyData.eqv d d')) H) : RK (rEqD K) x y H P := fun H1 e Q k => ⟨d, d', dp_ex e h1, dp_ex e h2, s1, s2, k _ _ ⟨H, e, hp⟩⟩
theorem r_neD {d d' : PyData} (h1 : Dp K H x d) (h2 : Dp K H y d') (s1 : SeqAt.shaped d = true) (s2 : SeqAt.shaped d' = true) (hp : P (.bl (!PyData.eqv d d')) H) : RK (rNeD K) x y H P := fun H1 e Q k => ⟨d, d', dp_ex e h1, dp_ex e h2, s1, s2, k _ _ ⟨H, e, hp⟩⟩
theorem eqv_self {d : PyData} (h : SeqAt.shaped d = true) : PyData.eqv d d = true := SeqAt.eqv_refl d (SeqAt.canLay_of_shaped h)
/-- both the same data -/
theorem r_eqS {d : PyData} (h1 : Dp K H x d) (h2 : Dp K H y d) (s1 : SeqAt.shaped d = true) (hp : P (.bl true) H) : RK (rEqD K) x y H P := r_eqD h1 h2 s1 s1 (by rw [eqv_self s1]; exact hp)
theorem r_neS {d : PyData} (h1 : Dp K H x d) (h2 : Dp K H y d) (s1 : SeqAt.shaped d = true) (hp : P (.bl false) H) : RK (rNeD K) x y H P := r_neD h1 h2 s1 s1 (by rw [eqv_self s1]; exact hp)
theorem dpa_ints : ∀ ns : List Int, DpAll K H (ns.map V.int) (ns.map PyData.int)
  | [] => .nil
  | n :: ns => .cons (.int n) (dpa_ints ns)
theorem dp_ints {a : Addr} {ns : List Int} (h : SqL K H a (ns.map V.int)) : Dp K H (.ref a) (.list (ns.map PyData.int)) := .lst h (dpa_ints ns)
theorem lay_ints : ∀ ns : List Int, PyData.canLayAll0 (ns.map PyData.int) = true
  | [] => rfl
  | n :: ns => by
    show (PyData.canLay0 (.int n) && PyData.canLayAll0 (ns.map PyData.int)) = true
    rw [lay_ints ns]
    rfl
theorem dep_ints : ∀ ns : List Int, PyData.depthAll (ns.map PyData.int) = 0
  | [] => rfl
  | n :: ns => by
    show max (PyData.depth (.int n)) (PyData.depthAll (ns.map PyData.int)) = 0
    rw [dep_ints ns]
    rfl
theorem sh_ints (ns : List Int) : SeqAt.shaped (.list (ns.map PyData.int)) = true := by
  show (PyData.canLayAll0 (ns.map PyData.int) && decide (PyData.depthAll (ns.map PyData.int) + 1 ≤ 64)) = true
  rw [lay_ints, dep_ints]
  rfl
/-- two lists of the same whole numbers -/
theorem r_eqI2 {a b : Addr} {ns : List Int} (h1 : SqL K H a (ns.map V.int)) (h2 : SqL K H b (ns.map V.int)) (hp : P (.bl true) H) : RK (rEqD K) (.ref a) (.ref b) H P := r_eqS (dp_ints h1) (dp_ints h2) (sh_ints ns) hp
theorem r_neI2 {a b : Addr} {ns : List Int} (h1 : SqL K H a (ns.map V.int)) (h2 : SqL K H b (ns.map V.int)) (hp : P (.bl false) H) : RK (rNeD K) (.ref a) (.ref b) H P := r_neS (dp_ints h1) (dp_ints h2) (sh_ints ns) hp
theorem r_cat {l b : Addr} {xs zs : List V} (h1 : H l = some (.lst xs)) (h2 : H b = some (.lst zs)) (hz : xs.length + zs.length ≤ 100000) (hp : ∀ p, H p = none → P (.ref p) (upd H p (.lst (xs ++ zs)))) : RK rCat (.ref l) (.ref b) H P := fun H1 e Q k =>
  ⟨l, b, xs, zs, rfl, rfl, e _ _ h1, e _ _ h2, sz_of hz, fun p np => k _ _ ⟨_, Ex.updm e, hp p (fresh_back e np)⟩⟩

theorem cut_from (xs : List V) : cutV xs (some 1) none = xs.drop 1 := by
  unfold cutV
  rw [show HT.sIx xs.length 0 (some 1) = min 1 xs.length from HT.sIx_nat xs.length 0 1, HT.sIx_none]
  cases xs with
  | nil => rfl
  | cons x r =>
    rw [show min 1 (x :: r).length = 1 by
      rw [List.length_cons]
      omega]
    show (List.take ((x :: r).length - 1) r) = r
    rw [List.length_cons, Nat.add_sub_cancel]
    exact List.take_length

theorem cut_to {xs : List V} {k : Nat} (h : k ≤ xs.length) : cutV xs none (some (k : Int)) = xs.take k := by
  unfold cutV
  rw [show HT.sIx xs.length xs.length (some (k : Int)) = min k xs.length from HT.sIx_nat xs.length xs.length k, HT.sIx_none, Nat.min_eq_left h, List.drop_zero, Nat.sub_zero]

theorem cut_ints (ns : List Int) (lo hi : Option Int) : ∃ cs : List Int, cutV (ns.map V.int) lo hi = cs.map V.int ∧ (∀ z ∈ cs, z ∈ ns) ∧ cs.length ≤ ns.length := by
  unfold cutV
  rw [← List.map_drop, ← List.map_take]
  refine ⟨_, rfl, fun z hz => List.mem_of_mem_drop (List.mem_of_mem_take hz), ?_⟩
  rw [List.length_take, List.length_drop]
  omega

/-! ### calls of built-ins -/
theorem c_len {p : Addr} {xs : List V} (h : SqL K H p xs) (hp : P (.int xs.length) H) : CK (rLn K) [.ref p] H P := fun H1 e Q k => ⟨p, xs, rfl, .inl (ex_l e h), k _ _ ⟨H, e, hp⟩⟩
theorem c_lenT {p : Addr} {xs : List V} (h : SqT K H p xs) (hp : P (.int xs.length) H) : CK (rLn K) [.ref p] H P := fun H1 e Q k => ⟨p, xs, rfl, .inr (ex_t e h), k _ _ ⟨H, e, hp⟩⟩
theorem c_list {p : Addr} {xs : List V} (h : SqL K H p xs) (hp : ∀ q, H q = none → P (.ref q) (upd H q (.lst xs))) : CK (rLs K) [.ref p] H P := fun H1 e Q k => ⟨p, xs, rfl, .inl (ex_l e h), fun q nq => k _ _ ⟨_, Ex.updm e, hp q (fresh_back e nq)⟩⟩
theorem c_sum {p : Addr} {ns : List Int} (h : SqL K H p (ns.map V.int)) (hp : P (.int ns.sum) H) : CK (rSum K) [.ref p] H P := fun H1 e Q k => ⟨p, ns, rfl, ex_l e h, k _ _ ⟨H, e, hp⟩⟩
theorem c_min {p : Addr} {ns : List Int} (h : SqL K H p (ns.map V.int)) (h0 : 0 < ns.length) (hp : ∀ m, m ∈ ns → (∀ y, y ∈ ns → m ≤ y) → P (.int m) H) : CK (rMin K) [.ref p] H P := fun H1 e Q k => ⟨p, ns, rfl, ex_l e h, h0, fun m hm hl => k _ _ ⟨H, e, hp m hm hl⟩⟩
theorem c_max {p : Addr} {ns : List Int} (h : SqL K H p (ns.map V.int)) (h0 : 0 < ns.length) (hp : ∀ m, m ∈ ns → (∀ y, y ∈ ns → y ≤ m) → P (.int m) H) : CK (rMax K) [.ref p] H P := fun H1 e Q k => ⟨p, ns, rfl, ex_l e h, h0, fun m hm hl => k _ _ ⟨H, e, hp m hm hl⟩⟩
theorem c_max2 {i j : Int} (hp : P (.int (if j > i then j else i)) H) : CK (fun xs H Q => ∃ i j, xs = [.int i, .int j] ∧ Q (.int (if j > i then j else i)) H) [.int i, .int j] H P := fun H1 e Q k => ⟨i, j, rfl, k _ _ ⟨H, e, hp⟩⟩
theorem c_min2 {i j : Int} (hp : P (.int (if j < i then j else i)) H) : CK (fun xs H Q => ∃ i j, xs = [.int i, .int j] ∧ Q (.int (if j < i then j else i)) H) [.int i, .int j] H P := fun H1 e Q k => ⟨i, j, rfl, k _ _ ⟨H, e, hp⟩⟩
theorem c_intB {b : Bool} (hp : P (.int (if b then 1 else 0)) H) : CK (fun xs H Q => (∃ i, xs = [.int i] ∧ Q (.int i) H) ∨ ∃ k, xs = [.bl k] ∧ Q (.int (if k then 1 else 0)) H) [.bl b] H P := fun H1 e Q k => .inr ⟨b, rfl, k _ _ ⟨H, e, hp⟩⟩
theorem tyx_ex {H1 : Hp} (e : Ex H H1) {t : Value} (h : TyX K H x t) : TyX K H1 x t := by
  cases h with
  | base b =>
    refine .base ?_
    cases b with
    | non => exact .non
    | bl y => exact .bl y
    | int i => exact .int i
    | str y => exact .str y
    | flt y => exact .flt y
    | lst ea => exact .lst (e _ _ ea)
    | frz ea => exact .frz (e _ _ ea)
    | tup ea => exact .tup (e _ _ ea)
    | dK ea => exact .dK (e _ _ ea)
    | dT ea => exact .dT (e _ _ ea)
    | ins ea cl ha hn htk hm => exact .ins (e _ _ ea) cl ha hn htk hm
  | byt y => exact .byt y
  | set ea => exact .set (e _ _ ea)
  | kList ea c => exact .kList ea c
  | kTuple ea c => exact .kTuple ea c
  | kDict ea c => exact .kDict ea c
  | fTuple ea => exact .fTuple (e _ _ ea)
  | fDict ea => exact .fDict (e _ _ ea)
theorem c_isi {n : String} {a : String} {b : Bool} (ty : TyX K H x (.type a)) (hk : kitB a n = some b) (hp : P (.bl b) H) : CK (rIsi K) [x, .ty n] H P := fun H1 e Q k => ⟨x, .ty n, .type a, .type n, b, rfl, .ty n, tyx_ex e ty, kit_ty hk, k _ _ ⟨H, e, hp⟩⟩
theorem ty_lst {a : Addr} {xs : List V} (h : H a = some (.lst xs)) : TyX K H (.ref a) (.type "list") := .base (.lst h)
theorem ty_tup {a : Addr} {xs : List V} (h : H a = some (.tup xs)) : TyX K H (.ref a) (.type "tuple") := .base (.tup h)
theorem c_list_list {a : Addr} {xs : List V} (h : H a = some (.lst xs)) (hp : P (.bl true) H) : CK (rIsi K) [.ref a, .ty "list"] H P := c_isi (ty_lst h) (by decide +kernel) hp
theorem c_tup_tup {a : Addr} {xs : List V} (h : H a = some (.tup xs)) (hp : P (.bl true) H) : CK (rIsi K) [.ref a, .ty "tuple"] H P := c_isi (ty_tup h) (by decide +kernel) hp
theorem c_int_int {i : Int} (hp : P (.bl true) H) : CK (rIsi K) [.int i, .ty "int"] H P := c_isi (.base (.int i)) (by decide +kernel) hp
theorem c_int_bool {i : Int} (hp : P (.bl false) H) : CK (rIsi K) [.int i, .ty "bool"] H P := c_isi (.base (.int i)) (by decide +kernel) hp
theorem c_bl_bool {i : Bool} (hp : P (.bl true) H) : CK (rIsi K) [.bl i, .ty "bool"] H P := c_isi (.base (.bl i)) (by decide +kernel) hp
theorem c_str_str {i : Str} (hp : P (.bl true) H) : CK (rIsi K) [.str i, .ty "str"] H P := c_isi (.base (.str i)) (by decide +kernel) hp
theorem c_non_int (hp : P (.bl false) H) : CK (rIsi K) [.non, .ty "int"] H P := c_isi (.base .non) (by decide +kernel) hp

/-! ### methods of lists -/
theorem m_append {l : Addr} {xs : List V} (h : H l = some (.lst xs)) (hz : xs.length < 100000) (hp : P .non (upd H l (.lst (xs ++ [y])))) : MK rAppend (.ref l) [y] H P := fun H1 e Q k => ⟨l, xs, y, rfl, rfl, e _ _ h, sz_lt hz, k _ _ ⟨_, Ex.updm e, hp⟩⟩
theorem m_reverse {l : Addr} {xs : List V} (h : H l = some (.lst xs)) (hp : P .non (upd H l (.lst xs.reverse))) : MK rReverse (.ref l) [] H P := fun H1 e Q k => ⟨l, xs, rfl, rfl, e _ _ h, k _ _ ⟨_, Ex.updm e, hp⟩⟩
theorem m_clear {l : Addr} {xs : List V} (h : H l = some (.lst xs)) (hp : P .non (upd H l (.lst []))) : MK rClear (.ref l) [] H P := fun H1 e Q k => ⟨l, xs, rfl, rfl, e _ _ h, k _ _ ⟨_, Ex.updm e, hp⟩⟩

/-! ### statements -/
theorem Go.here {s : TS} (h : Go s D σ H) : s D σ H := h H (Ex.refl H)
theorem Go.mono {s : TS} (h : Go s D σ H) (e : Ex H H') : Go s D σ H' := fun H1 a => h H1 (e.trans a)
variable {s s2 w : TS}
/-- a statement ahead of w -/
theorem gs_asg {i : Nat} (h : EvK te σ H fun v Hx => Go w D (σ.set i (some v)) Hx) : Go (tSeq (tAsg te (gName i)) w) D σ H := fun H1 e => h H1 e _ fun v H2 ⟨_, ex, g⟩ => g H2 ex
theorem gs_drop (h : EvK te σ H fun _ Hx => Go w D σ Hx) : Go (tSeq (tDrop te) w) D σ H := fun H1 e => h H1 e _ fun v H2 ⟨_, ex, g⟩ => g H2 ex
theorem gs_if (h : EvTK t σ H fun b Hx => (b = true → Go s { D with nx := w D } σ Hx) ∧ (b = false → Go s2 { D with nx := w D } σ Hx)) : Go (tSeq (tIfS t s s2) w) D σ H := fun H1 e => h H1 e _ fun b H2 ⟨Hx, ex, ht, hf⟩ => by
  cases b with
  | true =>
    rw [if_pos rfl]
    exact ht rfl H2 ex
  | false =>
    rw [if_neg Bool.false_ne_true]
    exact hf rfl H2 ex
theorem gs_when (h : EvTK t σ H fun b Hx => (b = true → Go s { D with nx := w D } σ Hx) ∧ (b = false → Go w D σ Hx)) : Go (tSeq (tIfS t s tNext) w) D σ H := gs_if h
/-- the last statement of a block -/
theorem g1_asg {i : Nat} (h : EvK te σ H fun v Hx => ∀ H1, Ex Hx H1 → D.nx (σ.set i (some v)) H1) : Go (tAsg te (gName i)) D σ H := fun H1 e => h H1 e _ fun v H2 ⟨_, ex, g⟩ => g H2 ex
theorem g1_drop (h : EvK te σ H fun _ Hx => ∀ H1, Ex Hx H1 → D.nx σ H1) : Go (tDrop te) D σ H := fun H1 e => h H1 e _ fun v H2 ⟨_, ex, g⟩ => g H2 ex
theorem g1_ret (h : EvK te σ H (KQ D.rt)) : Go (tRet te) D σ H := fun H1 e => h H1 e _ fun v H2 ⟨_, ex, g⟩ => g H2 ex
theorem g1_if (h : EvTK t σ H fun b Hx => (b = true → Go s D σ Hx) ∧ (b = false → Go s2 D σ Hx)) : Go (tIfS t s s2) D σ H := fun H1 e => h H1 e _ fun b H2 ⟨Hx, ex, ht, hf⟩ => by
  cases b with
  | true =>
    rw [if_pos rfl]
    exact ht rfl H2 ex
  | false =>
    rw [if_neg Bool.false_ne_true]
    exact hf rfl H2 ex
theorem g1_next (h : ∀ H1, Ex H H1 → D.nx σ H1) : Go tNext D σ H := h
/-- the last statement of a block within a block: then w -/
theorem g2_asg {i : Nat} (h : EvK te σ H fun v Hx => Go w D (σ.set i (some v)) Hx) : Go (tAsg te (gName i)) { D with nx := w D } σ H := g1_asg h
theorem g2_drop (h : EvK te σ H fun _ Hx => Go w D σ Hx) : Go (tDrop te) { D with nx := w D } σ H := g1_drop h
theorem g2_next (h : Go w D σ H) : Go tNext { D with nx := w D } σ H := h
/-- what stands behind, shown once -/
theorem gs_cut (R : Go w D σ H) (h : Go w D σ H → Go (tSeq s w) D σ H) : Go (tSeq s w) D σ H := h R
/-- a, b = b, a -/
theorem gs_par {i j : Nat} {tl : TA} (h : EvAK tl σ H fun vs Hx => ∃ v z, vs = [v, z] ∧ Go w D ((σ.set i (some v)).set j (some z)) Hx) : Go (tSeq (tPar i j tl) w) D σ H := fun H1 e => h H1 e _ fun vs H2 ⟨_, ex, v, z, ev, g⟩ => ⟨v, z, ev, g H2 ex⟩
theorem g1_par {i j : Nat} {tl : TA} (h : EvAK tl σ H fun vs Hx => ∃ v z, vs = [v, z] ∧ ∀ H1, Ex Hx H1 → D.nx ((σ.set i (some v)).set j (some z)) H1) : Go (tPar i j tl) D σ H := fun H1 e => h H1 e _ fun vs H2 ⟨_, ex, v, z, ev, g⟩ => ⟨v, z, ev, g H2 ex⟩
theorem g2_par {i j : Nat} {tl : TA} (h : EvAK tl σ H fun vs Hx => ∃ v z, vs = [v, z] ∧ Go w D ((σ.set i (some v)).set j (some z)) Hx) : Go (tPar i j tl) { D with nx := w D } σ H := g1_par h
/-- o[i] = e -/
theorem gs_set (h : EvK te σ H fun v Hv => EvK ta σ Hv fun o Ho => EvK tb σ Ho fun i Hi => ∃ l xs n j, o = .ref l ∧ i = .int n ∧ Hi l = some (.lst xs) ∧ ixN xs.length n = some j ∧ Go w D σ (upd Hi l (.lst (xs.set j v)))) : Go (tSeq (tAsg te (gSub ta tb rSetL)) w) D σ H := fun H1 e =>
  h H1 e _ fun v H2 ⟨_, e2, h2⟩ => h2 H2 e2 _ fun o H3 ⟨_, e3, h3⟩ => h3 H3 e3 _ fun i H4 ⟨Hi, e4, l, xs, n, j, eo, ei, hl, hj, g⟩ => ⟨l, xs, n, j, eo, ei, e4 _ _ hl, hj, g _ (Ex.updm e4)⟩
theorem g1_set (h : EvK te σ H fun v Hv => EvK ta σ Hv fun o Ho => EvK tb σ Ho fun i Hi => ∃ l xs n j, o = .ref l ∧ i = .int n ∧ Hi l = some (.lst xs) ∧ ixN xs.length n = some j ∧ ∀ H1, Ex (upd Hi l (.lst (xs.set j v))) H1 → D.nx σ H1) : Go (tAsg te (gSub ta tb rSetL)) D σ H := fun H1 e =>
  h H1 e _ fun v H2 ⟨_, e2, h2⟩ => h2 H2 e2 _ fun o H3 ⟨_, e3, h3⟩ => h3 H3 e3 _ fun i H4 ⟨Hi, e4, l, xs, n, j, eo, ei, hl, hj, g⟩ => ⟨l, xs, n, j, eo, ei, e4 _ _ hl, hj, g _ (Ex.updm e4)⟩

theorem g2_set (h : EvK te σ H fun v Hv => EvK ta σ Hv fun o Ho => EvK tb σ Ho fun i Hi => ∃ l xs n j, o = .ref l ∧ i = .int n ∧ Hi l = some (.lst xs) ∧ ixN xs.length n = some j ∧ Go w D σ (upd Hi l (.lst (xs.set j v)))) : Go (tAsg te (gSub ta tb rSetL)) { D with nx := w D } σ H := g1_set h

/-! ### loops: a word (Pv) of the turn, the slots and the smallest heap -/
/-- a state that the word allows, the heap grown -/
def Lp (Pv : Nat → L2.St → Hp → Prop) (i : Nat) (σ : L2.St) (H : Hp) : Prop := ∃ Hx, Ex Hx H ∧ Pv i σ Hx
theorem gs_forL {a : Addr} {xs : List V} {j : Nat} (Pv : Nat → L2.St → Hp → Prop) (h : EvK te σ H fun v Hx => v = .ref a ∧ SqL K Hx a xs ∧ Pv 0 σ Hx) (hl : ∀ i σ' H', i ≤ xs.length → Pv i σ' H' → SqL K H' a xs)
    (hs : ∀ i x σ' H', xs[i]? = some x → Pv i σ' H' → Go s { D with nx := Lp Pv (i + 1), ct := Lp Pv (i + 1), bk := w D } (σ'.set j (some x)) H') (hd : ∀ σ' H', Pv xs.length σ' H' → Go w D σ' H') : Go (tSeq (tFor (iList K te) (gName j) s) w) D σ H := fun H1 e =>
  h H1 e _ fun v H2 ⟨Hx, ex, ev, hq, h0⟩ => ⟨a, ev, ⟨xs, ex_l ex hq⟩, for_list (D := { D with nx := w D }) (Lp Pv) ⟨Hx, ex, h0⟩ (fun i σ' H' hi ⟨Hy, ey, p⟩ => ex_l ey (hl i σ' Hy hi p)) (fun i x σ' H' hi ⟨Hy, ey, p⟩ => hs i x σ' Hy hi p H' ey) (fun σ' H' ⟨Hy, ey, p⟩ => hd σ' Hy p H' ey)⟩
/-- over a list that is made on the way -/
theorem gs_forF {j : Nat} (h : EvK te σ H fun v Hx => ∃ (a : Addr) (xs : List V) (Pv : Nat → L2.St → Hp → Prop), v = .ref a ∧ SqL K Hx a xs ∧ Pv 0 σ Hx ∧ (∀ i σ' H', i ≤ xs.length → Pv i σ' H' → SqL K H' a xs) ∧
    (∀ i x σ' H', xs[i]? = some x → Pv i σ' H' → Go s { D with nx := Lp Pv (i + 1), ct := Lp Pv (i + 1), bk := w D } (σ'.set j (some x)) H') ∧ (∀ σ' H', Pv xs.length σ' H' → Go w D σ' H')) : Go (tSeq (tFor (iList K te) (gName j) s) w) D σ H := fun H1 e =>
  h H1 e _ fun v H2 ⟨Hx, ex, a, xs, Pv, ev, hq, h0, hl, hs, hd⟩ => ⟨a, ev, ⟨xs, ex_l ex hq⟩, for_list (D := { D with nx := w D }) (Lp Pv) ⟨Hx, ex, h0⟩ (fun i σ' H' hi ⟨Hy, ey, p⟩ => ex_l ey (hl i σ' Hy hi p)) (fun i x σ' H' hi ⟨Hy, ey, p⟩ => hs i x σ' Hy hi p H' ey) (fun σ' H' ⟨Hy, ey, p⟩ => hd σ' Hy p H' ey)⟩
theorem g1_forL {a : Addr} {xs : List V} {j : Nat} (Pv : Nat → L2.St → Hp → Prop) (h : EvK te σ H fun v Hx => v = .ref a ∧ SqL K Hx a xs ∧ Pv 0 σ Hx) (hl : ∀ i σ' H', i ≤ xs.length → Pv i σ' H' → SqL K H' a xs)
    (hs : ∀ i x σ' H', xs[i]? = some x → Pv i σ' H' → Go s { D with nx := Lp Pv (i + 1), ct := Lp Pv (i + 1), bk := D.nx } (σ'.set j (some x)) H') (hd : ∀ σ' H', Pv xs.length σ' H' → ∀ H1, Ex H' H1 → D.nx σ' H1) : Go (tFor (iList K te) (gName j) s) D σ H := fun H1 e =>
  h H1 e _ fun v H2 ⟨Hx, ex, ev, hq, h0⟩ => ⟨a, ev, ⟨xs, ex_l ex hq⟩, for_list (Lp Pv) ⟨Hx, ex, h0⟩ (fun i σ' H' hi ⟨Hy, ey, p⟩ => ex_l ey (hl i σ' Hy hi p)) (fun i x σ' H' hi ⟨Hy, ey, p⟩ => hs i x σ' Hy hi p H' ey) (fun σ' H' ⟨Hy, ey, p⟩ => hd σ' Hy p H' ey)⟩
theorem gs_forR {n : Int} {tl : TA} {j : Nat} (Pv : Nat → L2.St → Hp → Prop) (h : EvAK tl σ H fun vs Hx => vs = [.int n] ∧ n ≤ 100000 ∧ 0 ≤ n ∧ Pv 0 σ Hx)
    (hs : ∀ (i : Nat) σ' H', (i : Int) < n → Pv i σ' H' → Go s { D with nx := Lp Pv (i + 1), ct := Lp Pv (i + 1), bk := w D } (σ'.set j (some (.int (i : Int)))) H') (hd : ∀ σ' H', Pv n.toNat σ' H' → Go w D σ' H') : Go (tSeq (tFor (iRng1 tl) (gName j) s) w) D σ H := fun H1 e =>
  h H1 e _ fun vs H2 ⟨Hx, ex, ev, hn, hn0, h0⟩ => ⟨n, ev, by omega, by omega, for_range (D := { D with nx := w D }) (lo := 0) (n := n.toNat) (Lp Pv) ⟨Hx, ex, h0⟩ (fun i σ' H' hi ⟨Hy, ey, p⟩ => by
    have e0 : (0 : Int) + (i : Int) = (i : Int) := Int.zero_add _
    show s _ (σ'.set j (some (.int ((0 : Int) + (i : Int))))) H'
    rw [e0]
    exact hs i σ' Hy (by omega) p H' ey) (fun σ' H' ⟨Hy, ey, p⟩ => hd σ' Hy p H' ey)⟩
theorem gs_forR2 {lo n : Int} {tl : TA} {j : Nat} (Pv : Nat → L2.St → Hp → Prop) (h : EvAK tl σ H fun vs Hx => vs = [.int lo, .int n] ∧ (0 ≤ lo ∧ lo ≤ 100000 ∧ -100000 ≤ n ∧ n ≤ 100000) ∧ Pv 0 σ Hx)
    (hs : ∀ (i : Nat) σ' H', lo + (i : Int) < n → Pv i σ' H' → Go s { D with nx := Lp Pv (i + 1), ct := Lp Pv (i + 1), bk := w D } (σ'.set j (some (.int (lo + (i : Int))))) H') (hd : ∀ σ' H', Pv (n - lo).toNat σ' H' → Go w D σ' H') : Go (tSeq (tFor (iRng2 tl) (gName j) s) w) D σ H := fun H1 e =>
  h H1 e _ fun vs H2 ⟨Hx, ex, ev, hn, h0⟩ => ⟨lo, n, ev, ⟨by omega, by omega, by omega, by omega⟩, for_range (D := { D with nx := w D }) (lo := lo) (n := (n - lo).toNat) (Lp Pv) ⟨Hx, ex, h0⟩ (fun i σ' H' hi ⟨Hy, ey, p⟩ => hs i σ' Hy (by omega) p H' ey) (fun σ' H' ⟨Hy, ey, p⟩ => hd σ' Hy p H' ey)⟩

/-! ### comprehensions: [e for x in range(n)], [e for x in xs]; the elements v i -/
/-- the words of an element: at any heap that has grown, the value alone -/
theorem k_lcR {n : Int} {tl : TA} {j : Nat} {vs : List Nat} (f : Nat → V) (h : EvAK tl σ H fun ws Hx => ws = [.int n] ∧ n ≤ 40000 ∧ 0 ≤ n ∧ (∀ x, wipe ((wipe σ vs).set j (some x)) vs = wipe σ vs) ∧ (∀ (i : Nat) Hz, (i : Int) < n → Ex Hx Hz → EvK te ((wipe σ vs).set j (some (.int (i : Int)))) Hz fun v Hy => v = f i ∧ Hy = Hz) ∧ ∀ p, Hx p = none → P (.ref p) (upd Hx p (.lst ((List.range n.toNat).map f)))) :
    EvK (tLc (iRng1 tl) (gName j) tYes te vs) σ H P := fun H1 e Q k =>
  h H1 e _ fun ws H2 ⟨Hx, ex, ev, hn, hn0, hw, hs, hd⟩ => ⟨n, ev, by omega, by omega, fun p np => by
    have npx : Hx p = none := fresh_back ex np
    refine lc_range (lo := 0) (n := n.toNat) (fun i H' => Ex (upd Hx p (.lst ((List.range i).map f))) H') (Ex.updm ex) (fun i H' hi p' => ?_) (fun H' p' => k _ _ ⟨_, p', hd p npx⟩)
    have e0 : (0 : Int) + (i : Int) = (i : Int) := Int.zero_add _
    show wipe ((wipe σ vs).set j (some (.int ((0 : Int) + (i : Int))))) vs = wipe σ vs ∧ te ((wipe σ vs).set j (some (.int ((0 : Int) + (i : Int))))) H' fun y H4 => ∃ acc, H4 p = some (.lst acc) ∧ acc.length < sizeLine ∧ Ex (upd Hx p (.lst ((List.range (i + 1)).map f))) (upd H4 p (.lst (acc ++ [y])))
    rw [e0]
    refine ⟨hw _, hs i (upd Hx p (.lst ((List.range i).map f))) (by omega) (Ex.new npx) H' p' _ ?_⟩
    rintro y H4 ⟨Hy, ey, rfl, rfl⟩
    refine ⟨_, ey p _ upd_same, sz_lt (by rw [List.length_map, List.length_range]; omega), ?_⟩
    have e5 : (List.range (i + 1)).map f = (List.range i).map f ++ [f i] := by rw [List.range_succ, List.map_append]; rfl
    rw [e5]
    exact Ex.updm (fun a u q => by
      by_cases ha : a = p
      · subst ha
        rw [npx] at q
        cases q
      · exact ey a u (by rw [upd_ne ha]; exact q))⟩
theorem k_lcL {a : Addr} {xs : List V} {j : Nat} {vs : List Nat} {tl : TE} (f : Nat → V → V) (h : EvK tl σ H fun w Hx => w = .ref a ∧ SqL K Hx a xs ∧ xs.length ≤ 40000 ∧ (∀ x, wipe ((wipe σ vs).set j (some x)) vs = wipe σ vs) ∧ (∀ (i : Nat) x Hz, xs[i]? = some x → Ex Hx Hz → EvK te ((wipe σ vs).set j (some x)) Hz fun v Hy => v = f i x ∧ Hy = Hz) ∧ ∀ p, Hx p = none → P (.ref p) (upd Hx p (.lst (xs.mapIdx f)))) :
    EvK (tLc (iList K tl) (gName j) tYes te vs) σ H P := fun H1 e Q k =>
  h H1 e _ fun w H2 ⟨Hx, ex, ev, hq, hn, hw, hs, hd⟩ => ⟨a, ev, ⟨xs, ex_l ex hq⟩, fun p np => by
    have npx : Hx p = none := fresh_back ex np
    refine lc_list (xs := xs) (fun i H' => Ex (upd Hx p (.lst ((xs.take i).mapIdx f))) H') (Ex.updm ex) (fun i H' _ p' => ex_l p' (ex_l (Ex.new npx) hq)) (fun i x H' hi p' => ?_) (fun H' p' => k _ _ ⟨_, p', by rw [List.take_length]; exact hd p npx⟩)
    show wipe ((wipe σ vs).set j (some x)) vs = wipe σ vs ∧ te ((wipe σ vs).set j (some x)) H' fun y H4 => ∃ acc, H4 p = some (.lst acc) ∧ acc.length < sizeLine ∧ Ex (upd Hx p (.lst ((xs.take (i + 1)).mapIdx f))) (upd H4 p (.lst (acc ++ [y])))
    have hlt : i < xs.length := (List.getElem?_eq_some_iff.mp hi).1
    refine ⟨hw _, hs i x (upd Hx p (.lst ((xs.take i).mapIdx f))) hi (Ex.new npx) H' p' _ ?_⟩
    rintro y H4 ⟨Hy, ey, rfl, rfl⟩
    refine ⟨_, ey p _ upd_same, sz_lt (by rw [List.length_mapIdx, List.length_take]; omega), ?_⟩
    have e5 : (xs.take (i + 1)).mapIdx f = (xs.take i).mapIdx f ++ [f i x] := by
      rw [List.take_succ, hi, List.mapIdx_append, List.length_take, Nat.min_eq_left (Nat.le_of_lt hlt)]
      simp
    rw [e5]
    exact Ex.updm (fun a u q => by
      by_cases ha : a = p
      · subst ha
        rw [npx] at q
        cases q
      · exact ey a u (by rw [upd_ne ha]; exact q))⟩

/-! ### targets -/
def GK (g : TG) (v : V) (σ : L2.St) (H : Hp) (R : L2.St → Hp → Prop) : Prop := ∀ H1, Ex H H1 → ∀ Q : L2.St → Hp → Prop, (∀ σ' H2, (∃ Hx, Ex Hx H2 ∧ R σ' Hx) → Q σ' H2) → g v σ H1 Q
theorem gk_name {i : Nat} {R : L2.St → Hp → Prop} (h : R (σ.set i (some v)) H) : GK (gName i) v σ H R := fun H1 e Q k => k _ _ ⟨H, e, h⟩
theorem gk_tup2 {a : Addr} {g1 g2 : TG} {R : L2.St → Hp → Prop} (hq : SqT K H a [x, y]) (h : GK g1 x σ H fun σ1 H1 => GK g2 y σ1 H1 R) : GK (gTup K 2 (gCons g1 (gCons g2 gNil))) (.ref a) σ H R := fun H1 e Q k =>
  ⟨a, [x, y], rfl, ex_t e hq, rfl, x, [y], rfl, h H1 e _ fun σ1 H2 ⟨_, ex, h2⟩ => ⟨y, [], rfl, h2 H2 ex _ fun σ2 H3 z => ⟨rfl, k σ2 H3 z⟩⟩⟩
theorem gk_tup3 {a : Addr} {g1 g2 g3 : TG} {R : L2.St → Hp → Prop} (hq : SqT K H a [x, y, z]) (h : GK g1 x σ H fun σ1 H1 => GK g2 y σ1 H1 fun σ2 H2 => GK g3 z σ2 H2 R) : GK (gTup K 3 (gCons g1 (gCons g2 (gCons g3 gNil)))) (.ref a) σ H R := fun H1 e Q k =>
  ⟨a, [x, y, z], rfl, ex_t e hq, rfl, x, [y, z], rfl, h H1 e _ fun σ1 H2 ⟨_, ex, h2⟩ => ⟨y, [z], rfl, h2 H2 ex _ fun σ2 H3 ⟨_, ey, h3⟩ => ⟨z, [], rfl, h3 H3 ey _ fun σ3 H4 u => ⟨rfl, k σ3 H4 u⟩⟩⟩⟩
theorem gs_asgG {g : TG} (h : EvK te σ H fun v Hx => GK g v σ Hx fun σ' Hy => Go w D σ' Hy) : Go (tSeq (tAsg te g) w) D σ H := fun H1 e => h H1 e _ fun v H2 ⟨_, ex, gk⟩ => gk H2 ex _ fun σ' H3 ⟨_, ey, go⟩ => go H3 ey
theorem gs_forG {g : TG} (h : EvK te σ H fun v Hx => ∃ (a : Addr) (xs : List V) (Pv : Nat → L2.St → Hp → Prop), v = .ref a ∧ SqL K Hx a xs ∧ Pv 0 σ Hx ∧ (∀ i σ' H', i ≤ xs.length → Pv i σ' H' → SqL K H' a xs) ∧
    (∀ i x σ' H', xs[i]? = some x → Pv i σ' H' → GK g x σ' H' fun σ2 H2 => Go s { D with nx := Lp Pv (i + 1), ct := Lp Pv (i + 1), bk := w D } σ2 H2) ∧ (∀ σ' H', Pv xs.length σ' H' → Go w D σ' H')) : Go (tSeq (tFor (iList K te) g s) w) D σ H := fun H1 e =>
  h H1 e _ fun v H2 ⟨Hx, ex, a, xs, Pv, ev, hq, h0, hl, hs, hd⟩ => ⟨a, ev, ⟨xs, ex_l ex hq⟩, for_list (D := { D with nx := w D }) (Lp Pv) ⟨Hx, ex, h0⟩ (fun i σ' H' hi ⟨Hy, ey, p⟩ => ex_l ey (hl i σ' Hy hi p)) (fun i x σ' H' hi ⟨Hy, ey, p⟩ => hs i x σ' Hy hi p H' ey _ fun σ2 H2 ⟨_, ez, go⟩ => go H2 ez) (fun σ' H' ⟨Hy, ey, p⟩ => hd σ' Hy p H' ey)⟩
/-- for x, y in zip(xs, ys): two lists of one length -/
theorem gs_forZ {g1 g2 : TG} {tl : TA} (h : EvAK tl σ H fun vs Hx => ∃ (a b : Addr) (xs ys : List V) (Pv : Nat → L2.St → Hp → Prop), vs = [.ref a, .ref b] ∧ SqL K Hx a xs ∧ SqL K Hx b ys ∧ xs.length = ys.length ∧ Pv 0 σ Hx ∧ (∀ i σ' H', Pv i σ' H' → SqL K H' a xs ∧ SqL K H' b ys) ∧
    (∀ i x y σ' H', xs[i]? = some x → ys[i]? = some y → Pv i σ' H' → GK g1 x σ' H' fun σ1 H1 => GK g2 y σ1 H1 fun σ2 H2 => Go s { D with nx := Lp Pv (i + 1), ct := Lp Pv (i + 1), bk := w D } σ2 H2) ∧ (∀ σ' H', Pv xs.length σ' H' → Go w D σ' H')) :
    Go (tSeq (tFor (iZip K tl) (gTup K 2 (gCons g1 (gCons g2 gNil))) s) w) D σ H := fun H1 e =>
  h H1 e _ fun vs H2 ⟨Hx, ex, a, b, xs, ys, Pv, ev, hx, hy, hl, h0, hq, hs, hd⟩ => ⟨a, b, xs, ys, ev, ex_l ex hx, ex_l ex hy, RZ.for_zipL (D := { D with nx := w D }) hl (Lp Pv) ⟨Hx, ex, h0⟩ (fun i σ' H' ⟨Hy, ey, p⟩ => ⟨ex_l ey (hq i σ' Hy p).1, ex_l ey (hq i σ' Hy p).2⟩)
    (fun i x y T σ' H' gx gy ⟨Hy, ey, p⟩ nT => gk_tup2 (H := upd H' T (.tup [x, y])) (st_of upd_same) (fun H3 e3 Q k => hs i x y σ' Hy gx gy p H3 ((ey.trans (Ex.new nT)).trans e3) Q k) _ (Ex.refl _) _ fun σ2 H2 ⟨_, ez, go⟩ => go H2 ez) (fun σ' H' ⟨Hy, ey, p⟩ => hd σ' Hy p H' ey)⟩
/-- divmod -/
theorem c_divmod {i j : Int} (hc : CDiv i j) (hp : ∀ p, H p = none → P (.ref p) (upd H p (.tup [.int (i / j), .int (i % j)]))) : CK (fun xs H Q => ∃ i j, xs = [.int i, .int j] ∧ CDiv i j ∧ ∀ p, H p = none → Q (.ref p) (upd H p (.tup [.int (i / j), .int (i % j)]))) [.int i, .int j] H P := fun H1 e Q k => ⟨i, j, rfl, hc, fun p np => k _ _ ⟨_, Ex.updm e, hp p (fresh_back e np)⟩⟩
/-- a statement whose ways meet: what holds behind it, told once -/
def Md (Pc : L2.St → Hp → Prop) (σ : L2.St) (H : Hp) : Prop := ∃ Hx, Ex Hx H ∧ Pc σ Hx
theorem gs_mid (Pc : L2.St → Hp → Prop) (h : Go s { D with nx := Md Pc } σ H) (R : ∀ σ' H', Pc σ' H' → Go w D σ' H') : Go (Evl.tCut s w) D σ H := fun H1 e => ⟨Md Pc, h H1 e, fun σ' H' ⟨Hx, ex, p⟩ => R σ' Hx p H' ex⟩
theorem g1_forF {j : Nat} (h : EvK te σ H fun v Hx => ∃ (a : Addr) (xs : List V) (Pv : Nat → L2.St → Hp → Prop), v = .ref a ∧ SqL K Hx a xs ∧ Pv 0 σ Hx ∧ (∀ i σ' H', i ≤ xs.length → Pv i σ' H' → SqL K H' a xs) ∧
    (∀ i x σ' H', xs[i]? = some x → Pv i σ' H' → Go s { D with nx := Lp Pv (i + 1), ct := Lp Pv (i + 1), bk := D.nx } (σ'.set j (some x)) H') ∧ (∀ σ' H', Pv xs.length σ' H' → ∀ H1, Ex H' H1 → D.nx σ' H1)) : Go (tFor (iList K te) (gName j) s) D σ H := fun H1 e =>
  h H1 e _ fun v H2 ⟨Hx, ex, a, xs, Pv, ev, hq, h0, hl, hs, hd⟩ => ⟨a, ev, ⟨xs, ex_l ex hq⟩, for_list (Lp Pv) ⟨Hx, ex, h0⟩ (fun i σ' H' hi ⟨Hy, ey, p⟩ => ex_l ey (hl i σ' Hy hi p)) (fun i x σ' H' hi ⟨Hy, ey, p⟩ => hs i x σ' Hy hi p H' ey) (fun σ' H' ⟨Hy, ey, p⟩ => hd σ' Hy p H' ey)⟩

/-! ### what may raise -/
/-- a call that may raise, in a def that lets it out (E), in a try (by the slots) -/
def tCallX (sp : Sp) (E : XK) (tl : TA) : TE := tCall sp [] E tl
theorem peX {X : Cx} {sp : Sp} {E : XK} {tl : TA} {e : Expr} (h : PE X e (tCall sp [] E tl)) : PE X e (tCallX sp E tl) := h
theorem k_callX {sp : Sp} {E : XK} {tl : TA} (h : EvAK tl σ H fun vs Hx => Kc (fun H Q => sp vs H Q E) Hx P) : EvK (tCallX sp E tl) σ H P := fun H1 e Q k => h H1 e _ fun vs H2 ⟨Hx, ex, h2⟩ => by
  rw [List.append_nil]
  exact h2 H2 ex Q k
theorem k_callS {sp : Sp} {E : L2.St → XK} {tl : TA} (h : EvAK tl σ H fun vs Hx => Kc (fun H Q => sp vs H Q (E σ)) Hx P) : EvK (tCallS sp E tl) σ H P := kc_bind (f := fun vs H1 Q => sp vs H1 Q (E σ)) h
/-- what is wished of an exception at a heap that may have grown -/
def KE (E : XK) (c : Value) (d : Option Addr) (Hx : Hp) : Prop := ∀ H1, Ex Hx H1 → E c d H1
theorem KE.up {E : XK} {c : Value} {d : Option Addr} (h : KE E c d H) (e : Ex H H') : KE E c d H' := fun H1 a => h H1 (e.trans a)
/-- except c as n (slot i), the exception's class that clause's -/
theorem ke_as {c : Value} {i : Nat} {ts : Addr → Value → Option Addr → TS} {Wout : WX} {cls : Value} {d : Option Addr} (he : PySem.W.exmOne K cls c = some true)
    (h : ∀ a, H a = none → Go (ts a cls d) { nx := fun σ' H' => D.nx (σ'.set i none) H', rt := D.rt, bk := fun σ' H' => D.bk (σ'.set i none) H', ct := fun σ' H' => D.ct (σ'.set i none) H' } (σ.set i (some (.ref a))) H) : KE (WE (wAs K c i ts Wout D) σ) cls d H := fun H1 e =>
  ⟨true, he, fun _ a na => h a (fresh_back e na) H1 e, fun q => Bool.noConfusion q⟩
theorem ke_only {c : Value} {ts : Addr → Value → Option Addr → TS} {Wout : WX} {cls : Value} {d : Option Addr} (he : PySem.W.exmOne K cls c = some true)
    (h : ∀ a, H a = none → Go (ts a cls d) D σ H) : KE (WE (wOnly K c ts Wout D) σ) cls d H := fun H1 e => ⟨true, he, fun _ a na => h a (fresh_back e na) H1 e, fun q => Bool.noConfusion q⟩
/-- a suite that is only asked for exceptions of the class at C, made without a dict of their own -/
def tsD (C : Addr) (ts : Addr → TS) : Addr → Value → Option Addr → TS := fun a cls d Dn σ H => cls = .ref C ∧ d = none ∧ ts a Dn σ H
theorem suiteD {X : Cx} {C : Addr} {sts : List Stmt} {ts : Addr → TS} (h : ∀ (a : Addr) (oe : Obj) (pn : List (Addr × Obj)), Zc (.ref C) none oe → (∃ vs, oe.data = .fields vs) → PSs (X.suite a ((a, oe) :: pn)) sts (ts a)) :
    ∀ (a : Addr) (oe : Obj) (cls : Value) (d : Option Addr) (pn : List (Addr × Obj)), Zc cls d oe → (∃ vs, oe.data = .fields vs) → PSs (X.suite a ((a, oe) :: pn)) sts (tsD C ts a cls d) := fun a oe cls d pn hz hf =>
  ⟨fun pins s σ H Dn I hh => by
    obtain ⟨e1, e2, h2⟩ := hh
    subst e1 e2
    exact (h a oe pn hz hf).run pins s σ H Dn I h2⟩
theorem g_tsD {C a : Addr} {ts : Addr → TS} (h : Go (ts a) D σ H) : Go (tsD C ts a (.ref C) none) D σ H := fun H1 e => ⟨rfl, rfl, h H1 e⟩
theorem bIsE {X : Cx} {a C : Addr} {oe : Obj} {pn : List (Addr × Obj)} (CE : ExcC K C) (hz : Zc (.ref C) none oe) (hf : ∃ vs, oe.data = .fields vs) (h : X.K = K := by rfl) : CallR (X.suite a ((a, oe) :: pn)) (.builtin "isinstance") (rIsE K C a) := by
  subst h
  exact call_isE CE hz hf
theorem c_isE {C a D0 : Addr} {b : Bool} (hk : PySem.W.kitOne K (.ref C) (.ref D0) = some b) (hp : P (.bl b) H) : CK (rIsE K C a) [.ref a, .ref D0] H P := fun H1 e Q k => ⟨.ref D0, .ref D0, b, rfl, fun u r => r, hk, k _ _ ⟨H, e, hp⟩⟩
theorem c_isET {C a : Addr} {n : String} {b : Bool} (hk : PySem.W.kitOne K (.ref C) (.type n) = some b) (hp : P (.bl b) H) : CK (rIsE K C a) [.ref a, .ty n] H P := fun H1 e Q k => ⟨.ty n, .type n, b, rfl, fun u r => r, hk, k _ _ ⟨H, e, hp⟩⟩
/-- xs.insert(i, y), xs.pop(i), 0 ≤ i -/
theorem m_insert {l : Addr} {xs : List V} {j : Nat} (h : H l = some (.lst xs)) (hz : xs.length < 100000) (hj : j ≤ 100000) (hp : P .non (upd H l (.lst (xs.take j ++ [y] ++ xs.drop j)))) : MK (fun x vs H Q => ∃ (l : Addr) (xs : List V) (i : Int) (y : V), x = .ref l ∧ vs = [.int i, y] ∧ H l = some (.lst xs) ∧ xs.length < sizeLine ∧ 0 ≤ i ∧ i < 2 ^ 63 ∧ Q .non (upd H l (.lst (xs.take i.toNat ++ [y] ++ xs.drop i.toNat)))) (.ref l) [.int (j : Int), y] H P := fun H1 e Q k =>
  ⟨l, xs, (j : Int), y, rfl, rfl, e _ _ h, sz_lt hz, by omega, by omega, by
    rw [Int.toNat_natCast]
    exact k _ _ ⟨_, Ex.updm e, hp⟩⟩
theorem m_popAt {l : Addr} {xs : List V} {j : Nat} (h : H l = some (.lst xs)) (hz : xs.length < 100000) (hj : xs[j]? = some y) (hp : P y (upd H l (.lst (xs.eraseIdx j)))) : MK rPopAt (.ref l) [.int (j : Int)] H P := fun H1 e Q k => by
  have hlt := (List.getElem?_eq_some_iff.mp hj).1
  exact ⟨l, xs, (j : Int), j, y, rfl, rfl, e _ _ h, by omega, by omega, seqIndex_of (by omega) (by omega), hj, k _ _ ⟨_, Ex.updm e, hp⟩⟩
end
end Px

set_option Elab.async false
set_option linter.all false
/-! Pm: plain mathematics: rows in order, what the fullest hold together. -/
namespace Pm
/-- a row in order, the fullest first -/
def sd (ns : List Int) : List Int := ns.mergeSort fun a b => decide (b ≤ a)
theorem sd_perm (ns : List Int) : (sd ns).Perm ns := List.mergeSort_perm ns _
theorem sd_sorted (ns : List Int) : (sd ns).Pairwise (· ≥ ·) := by
  have h := List.pairwise_mergeSort (le := fun a b : Int => decide (b ≤ a)) (fun a b c h1 h2 => by
    have h1' := of_decide_eq_true h1
    have h2' := of_decide_eq_true h2
    exact decide_eq_true (by omega)) (fun a b => by
    by_cases h : b ≤ a
    · rw [decide_eq_true h]; rfl
    · have h2 : a ≤ b := by omega
      rw [decide_eq_true h2, Bool.or_true]) ns
  exact h.imp fun h => of_decide_eq_true h
theorem sd_uniq {l ns : List Int} (p : l.Perm ns) (s : l.Pairwise (· ≥ ·)) : l = sd ns :=
  List.Perm.eq_of_pairwise (le := (· ≥ ·)) (fun a b _ _ h1 h2 => by omega) s (sd_sorted ns) (p.trans (sd_perm ns).symm)
theorem sd_of_perm {a b : List Int} (p : a.Perm b) : sd a = sd b := sd_uniq ((sd_perm a).trans p) (sd_sorted a)
theorem sd_len (ns : List Int) : (sd ns).length = ns.length := (sd_perm ns).length_eq
theorem sd_reverse (ns : List Int) : sd ns.reverse = sd ns := sd_of_perm (List.reverse_perm ns)
theorem perm_sum {a b : List Int} (p : a.Perm b) : a.sum = b.sum := by
  induction p with
  | nil => rfl
  | cons x _ ih => rw [List.sum_cons, List.sum_cons, ih]
  | swap x y l => rw [List.sum_cons, List.sum_cons, List.sum_cons, List.sum_cons]; omega
  | trans _ _ h1 h2 => exact h1.trans h2
/-- the sums of the first k, for each k -/
def psums (l : List Int) : List Int := (List.range (l.length + 1)).map fun k => (l.take k).sum
def tops (ns : List Int) : List Int := psums (sd ns)
theorem psums_len (l : List Int) : (psums l).length = l.length + 1 := by unfold psums; rw [List.length_map, List.length_range]
theorem tops_len (l : List Int) : (tops l).length = l.length + 1 := by unfold tops; rw [psums_len, sd_len]
theorem take_more {α : Type} {l : List α} {i : Nat} {x : α} (h : l[i]? = some x) : l.take (i + 1) = l.take i ++ [x] := by
  rw [List.take_succ, h]; rfl
theorem sum_take {l : List Int} {i : Nat} {x : Int} (h : l[i]? = some x) : (l.take (i + 1)).sum = (l.take i).sum + x := by
  rw [take_more h, List.sum_append, List.sum_cons, List.sum_nil]; omega
theorem psums_get {l : List Int} {k : Nat} (h : k ≤ l.length) : (psums l)[k]? = some (l.take k).sum := by
  unfold psums
  rw [List.getElem?_map, List.getElem?_range (by omega)]
  rfl
theorem map_at {ns : List Int} {i : Nat} {x : L2.V} (h : (ns.map L2.V.int)[i]? = some x) : ∃ z, ns[i]? = some z ∧ x = L2.V.int z := by
  rw [List.getElem?_map] at h
  cases e : ns[i]? with
  | none => rw [e] at h; cases h
  | some z => rw [e] at h; exact ⟨z, rfl, (Option.some.inj h).symm⟩
theorem atI_map {ns : List Int} {k : Nat} {z : Int} (h : ns[k]? = some z) : L2.atI (ns.map L2.V.int) (k : Int) = some (L2.V.int z) := L2.atI_nat (by rw [List.getElem?_map, h]; rfl)
theorem range_getD {α : Type} (l : List Int) (f : Int → α) : (List.range l.length).map (fun i => f (l.getD i 0)) = l.map f := by
  apply List.ext_getElem
  · rw [List.length_map, List.length_range, List.length_map]
  · intro i h1 h2
    rw [List.length_map] at h2
    rw [List.getElem_map, List.getElem_map, List.getElem_range, List.getD_eq_getElem?_getD, List.getElem?_eq_getElem h2]
    rfl
open L2 Evl Px in
/-- sorted(xs, reverse=True) -/
theorem c_sortedRev {K : PySem.W.Frag} {H : Hp} {P : V → Hp → Prop} {a : PySem.Addr} {ns : List Int} (h : SqL K H a (ns.map V.int)) (hp : ∀ p, H p = none → P (.ref p) (upd H p (.lst ((sd ns).map V.int)))) : Kc (rSortedKw K true [.bl true] [.ref a] [.bl true]) H P := fun H1 e Q k =>
  ⟨a, ns, rfl, rfl, ex_l e h, fun ns' p hp' ho np => by
    have e2 : ns' = sd ns := sd_uniq hp' ho
    subst e2
    exact k _ _ ⟨_, Ex.updm e, hp p (fresh_back e np)⟩⟩

theorem atI_neg {α : Type} {l : List α} (h : 0 < l.length) : L2.atI l (-1) = l[l.length - 1]? := by
  unfold L2.atI L2.ixN
  rw [if_neg (by omega), if_pos (by omega)]
  show l[(-1 + (l.length : Int)).toNat]? = _
  congr 1
  omega
theorem atI_last {l : List Int} (h : 0 < l.length) : L2.atI (l.map L2.V.int) (-1) = some (L2.V.int (l.getD (l.length - 1) 0)) := by
  rw [atI_neg (by rw [List.length_map]; exact h), List.length_map, List.getElem?_map, List.getD_eq_getElem?_getD, List.getElem?_eq_getElem (by omega)]
  rfl

/-! ### sums -/
theorem rsum_succ (f : Nat → Int) (k : Nat) : ((List.range (k + 1)).map f).sum = ((List.range k).map f).sum + f k := by
  rw [List.range_succ, List.map_append, List.sum_append]
  show _ + (f k + 0) = _
  omega
theorem sum_ge {x : Int} : ∀ {l : List Int}, (∀ y ∈ l, x ≤ y) → (l.length : Int) * x ≤ l.sum
  | [], _ => by simp
  | a :: l, h => by
    have h1 := sum_ge (x := x) (l := l) fun y hy => h y (List.mem_cons_of_mem _ hy)
    have h2 := h a List.mem_cons_self
    rw [List.length_cons, List.sum_cons]
    have e : ((l.length + 1 : Nat) : Int) * x = (l.length : Int) * x + x := by
      rw [Int.natCast_add, Int.add_mul]
      show _ + 1 * x = _
      rw [Int.one_mul]
    omega
theorem sum_le {x : Int} : ∀ {l : List Int}, (∀ y ∈ l, y ≤ x) → l.sum ≤ (l.length : Int) * x
  | [], _ => by simp
  | a :: l, h => by
    have h1 := sum_le (x := x) (l := l) fun y hy => h y (List.mem_cons_of_mem _ hy)
    have h2 := h a List.mem_cons_self
    rw [List.length_cons, List.sum_cons]
    have e : ((l.length + 1 : Nat) : Int) * x = (l.length : Int) * x + x := by
      rw [Int.natCast_add, Int.add_mul]
      show _ + 1 * x = _
      rw [Int.one_mul]
    omega
theorem abs_sum {b : Nat} : ∀ {l : List Int}, (∀ y ∈ l, y.natAbs < b) → l.sum.natAbs ≤ l.length * b
  | [], _ => by simp
  | a :: l, h => by
    have h1 := abs_sum (b := b) (l := l) fun y hy => h y (List.mem_cons_of_mem _ hy)
    have h2 := h a List.mem_cons_self
    rw [List.length_cons, List.sum_cons, Nat.add_mul]
    omega
theorem sum_bd {b : Nat} {l : List Int} (h : ∀ y ∈ l, Px.Bd b y) (hl : l.length ≤ 100) : Px.Bd (b + 7) l.sum := by
  have h1 := abs_sum (b := 2 ^ b) h
  have h2 : l.length * 2 ^ b ≤ 100 * 2 ^ b := Nat.mul_le_mul_right _ hl
  unfold Px.Bd
  rw [Nat.pow_add]
  have h3 : 0 < 2 ^ b := Nat.pow_pos (by decide)
  omega
/-- the sum of the squares -/
def sq (l : List Int) : Int := (l.map fun x => x * x).sum
theorem sq_take {l : List Int} {i : Nat} {x : Int} (h : l[i]? = some x) : sq (l.take (i + 1)) = sq (l.take i) + x * x := by
  unfold sq
  rw [take_more h, List.map_append, List.sum_append]
  show _ + (x * x + 0) = _
  omega
theorem sq_bd {b : Nat} {l : List Int} (h : ∀ y ∈ l, Px.Bd b y) (hl : l.length ≤ 100) : Px.Bd (b + b + 7) (sq l) := sum_bd (fun y hy => by
  obtain ⟨x, hx, rfl⟩ := List.mem_map.mp hy
  exact (h x hx).mul (h x hx)) (by rw [List.length_map]; exact hl)
def spread (l : List Int) : Int := (l.length : Int) * sq l - l.sum * l.sum
theorem sq_perm {a b : List Int} (p : a.Perm b) : sq a = sq b := perm_sum (p.map _)
theorem spread_perm {a b : List Int} (p : a.Perm b) : spread a = spread b := by
  unfold spread
  rw [sq_perm p, perm_sum p, p.length_eq]
/-- the squared differences of x to each of l -/
def dsq (x : Int) (l : List Int) : Int := (l.map fun y => (x - y) * (x - y)).sum
theorem dsq_take {x : Int} {l : List Int} {i : Nat} {y : Int} (h : l[i]? = some y) : dsq x (l.take (i + 1)) = dsq x (l.take i) + (x - y) * (x - y) := by
  unfold dsq
  rw [take_more h, List.map_append, List.sum_append]
  show _ + ((x - y) * (x - y) + 0) = _
  omega
theorem dsq_eq (x : Int) : ∀ l : List Int, dsq x l = (l.length : Int) * (x * x) - 2 * x * l.sum + sq l
  | [] => by simp [dsq, sq]
  | y :: l => by
    have ih := dsq_eq x l
    have e1 : dsq x (y :: l) = (x - y) * (x - y) + dsq x l := by unfold dsq; rw [List.map_cons, List.sum_cons]
    have e2 : sq (y :: l) = y * y + sq l := by unfold sq; rw [List.map_cons, List.sum_cons]
    rw [e1, e2, ih, List.sum_cons, List.length_cons, Int.natCast_add]
    generalize l.sum = S
    generalize sq l = q
    generalize (l.length : Int) = n
    show _ = (n + 1) * (x * x) - _ + _
    grind
/-- all pairs, place by place -/
def pairs (l : List Int) : Nat → Int
  | 0 => 0
  | k + 1 => pairs l k + dsq (l.getD k 0) (l.take k)
theorem pairs_eq (l : List Int) : ∀ k, k ≤ l.length → pairs l k = (k : Int) * sq (l.take k) - (l.take k).sum * (l.take k).sum
  | 0, _ => by simp [pairs]
  | k + 1, h => by
    have ih := pairs_eq l k (by omega)
    have hx : l[k]? = some (l.getD k 0) := by
      rw [List.getD_eq_getElem?_getD, List.getElem?_eq_getElem (by omega)]
      rfl
    show pairs l k + dsq (l.getD k 0) (l.take k) = _
    rw [ih, dsq_eq, sq_take hx, sum_take hx, List.length_take, Nat.min_eq_left (by omega), Int.natCast_add]
    generalize (l.take k).sum = S
    generalize sq (l.take k) = q
    generalize l.getD k 0 = x
    generalize (k : Int) = n
    show _ = (n + 1) * _ - _
    grind
theorem pairs_all (l : List Int) : pairs l l.length = spread l := by
  rw [pairs_eq l _ (Nat.le_refl _), List.take_length]
  rfl
theorem getD_at {l : List Int} {i : Nat} (h : i < l.length) : l[i]? = some (l.getD i 0) := by
  rw [List.getD_eq_getElem?_getD, List.getElem?_eq_getElem h]
  rfl

/-! ### the level row -/
def lv (n : Nat) (s : Int) (k : Nat) : Int := s / (n : Int) + if (k : Int) < s % (n : Int) then 1 else 0
def level (n : Nat) (s : Int) : List Int := (List.range n).map (lv n s)
theorem level_len (n : Nat) (s : Int) : (level n s).length = n := by unfold level; rw [List.length_map, List.length_range]
theorem lv_sum {n : Nat} {s : Int} (h : 0 ≤ s % (n : Int)) : ∀ k : Nat, ((List.range k).map (lv n s)).sum = (k : Int) * (s / (n : Int)) + min (k : Int) (s % (n : Int))
  | 0 => by simp; omega
  | k + 1 => by
    rw [rsum_succ, lv_sum h k]
    unfold lv
    have e : ((k + 1 : Nat) : Int) * (s / (n : Int)) = (k : Int) * (s / (n : Int)) + s / (n : Int) := by
      rw [Int.natCast_add, Int.add_mul]
      show _ + 1 * _ = _
      rw [Int.one_mul]
    rw [e]
    split <;> omega
theorem level_take {n : Nat} {s : Int} {k : Nat} (h : k ≤ n) : (level n s).take k = (List.range k).map (lv n s) := by
  unfold level
  rw [← List.map_take, List.take_range, Nat.min_eq_left h]
theorem level_sum {n : Nat} {s : Int} (h : 0 < n) : (level n s).sum = s := by
  have h0 := Int.emod_nonneg s (show (n : Int) ≠ 0 by omega)
  have h1 := Int.emod_lt_of_pos s (show 0 < (n : Int) by omega)
  have e := lv_sum h0 n
  unfold level
  rw [e, Int.min_eq_right (by omega)]
  exact Int.mul_ediv_add_emod s n
theorem level_at {n : Nat} {s : Int} {k : Nat} (h : k < n) : (level n s)[k]? = some (lv n s k) := by
  unfold level
  rw [List.getElem?_map, List.getElem?_range h]
  rfl
theorem lv_mono {n : Nat} {s : Int} {i j : Nat} (h : i ≤ j) : lv n s j ≤ lv n s i := by
  unfold lv
  split <;> split <;> omega
theorem level_sorted (n : Nat) (s : Int) : (level n s).Pairwise (· ≥ ·) := by
  unfold level
  rw [List.pairwise_map]
  exact List.pairwise_lt_range.imp fun h => lv_mono (Nat.le_of_lt h)
theorem sd_level (n : Nat) (s : Int) : sd (level n s) = level n s := (sd_uniq (List.Perm.refl _) (level_sorted n s)).symm
theorem lv_sq {n : Nat} {s : Int} (h : 0 ≤ s % (n : Int)) : ∀ k : Nat, ((List.range k).map fun i => lv n s i * lv n s i).sum = (k : Int) * ((s / (n : Int)) * (s / (n : Int))) + min (k : Int) (s % (n : Int)) * (2 * (s / (n : Int)) + 1)
  | 0 => by
    have e : min ((0 : Nat) : Int) (s % (n : Int)) = 0 := by omega
    rw [e]
    simp
  | k + 1 => by
    rw [rsum_succ, lv_sq h k]
    unfold lv
    rw [Int.natCast_add]
    by_cases c : (k : Int) < s % (n : Int)
    · rw [if_pos c, Int.min_eq_left (by omega), Int.min_eq_left (by omega)]
      generalize s / (n : Int) = q
      generalize (k : Int) = m
      show _ = (m + 1) * _ + (m + 1) * _
      grind
    · rw [if_neg c, Int.min_eq_right (by omega), Int.min_eq_right (by omega)]
      generalize s / (n : Int) = q
      generalize s % (n : Int) = r
      generalize (k : Int) = m
      show _ = (m + 1) * _ + _
      grind
theorem spread_level {n : Nat} {s : Int} (h : 0 < n) : spread (level n s) = s % (n : Int) * ((n : Int) - s % (n : Int)) := by
  have h0 := Int.emod_nonneg s (show (n : Int) ≠ 0 by omega)
  have h1 := Int.emod_lt_of_pos s (show 0 < (n : Int) by omega)
  have e1 : sq (level n s) = (n : Int) * ((s / (n : Int)) * (s / (n : Int))) + s % (n : Int) * (2 * (s / (n : Int)) + 1) := by
    unfold sq level
    rw [List.map_map]
    have e := lv_sq h0 n
    rw [Int.min_eq_right (by omega)] at e
    exact e
  unfold spread
  rw [e1, level_sum h, level_len]
  have e2 := Int.mul_ediv_add_emod s n
  generalize s / (n : Int) = q at *
  generalize s % (n : Int) = r at *
  generalize (n : Int) = m at *
  subst e2
  grind
theorem spread_nil : spread [] = 0 := rfl
/-- no k of the fullest hold less than the level row's -/
theorem level_below {l : List Int} (hs : l.Pairwise (· ≥ ·)) {k : Nat} (hk : k ≤ l.length) : ((level l.length l.sum).take k).sum ≤ (l.take k).sum := by
  rw [level_take hk]
  cases k with
  | zero => simp
  | succ m =>
    have hn : (l.length : Int) ≠ 0 := by omega
    have h0 := Int.emod_nonneg l.sum hn
    have h1 := Int.emod_lt_of_pos l.sum (show 0 < (l.length : Int) by omega)
    rw [lv_sum h0]
    have e2 := Int.mul_ediv_add_emod l.sum l.length
    have hx := getD_at (l := l) (i := m) (by omega)
    generalize l.getD m 0 = x at hx
    have htd : l.take (m + 1) ++ l.drop (m + 1) = l := List.take_append_drop _ _
    have hsum : (l.take (m + 1)).sum + (l.drop (m + 1)).sum = l.sum := by
      rw [← List.sum_append, htd]
    have hp : ∀ i j (a b : Int), i < j → l[i]? = some a → l[j]? = some b → b ≤ a := fun i j a b hij ha hb => by
      obtain ⟨h3, rfl⟩ := List.getElem?_eq_some_iff.mp ha
      obtain ⟨h4, rfl⟩ := List.getElem?_eq_some_iff.mp hb
      exact List.pairwise_iff_getElem.mp hs i j h3 h4 hij
    have g1 : ∀ y ∈ l.take (m + 1), x ≤ y := fun y hy => by
      obtain ⟨i, hi⟩ := List.mem_iff_getElem?.mp hy
      rw [List.getElem?_take] at hi
      split at hi
      · rename_i c
        by_cases e : i = m
        · subst e
          rw [hx] at hi
          have := Option.some.inj hi
          omega
        · exact hp i m y x (by omega) hi hx
      · cases hi
    have g2 : ∀ y ∈ l.drop (m + 1), y ≤ x := fun y hy => by
      obtain ⟨i, hi⟩ := List.mem_iff_getElem?.mp hy
      rw [List.getElem?_drop] at hi
      exact hp m (m + 1 + i) x y (by omega) hx hi
    have s1 := sum_ge g1
    have s2 := sum_le g2
    rw [List.length_take, Nat.min_eq_left (by omega)] at s1
    rw [List.length_drop] at s2
    generalize l.sum / (l.length : Int) = q at *
    generalize l.sum % (l.length : Int) = r at *
    generalize (l.take (m + 1)).sum = T at *
    generalize (l.drop (m + 1)).sum = U at *
    have hd : ((l.length - (m + 1) : Nat) : Int) = (l.length : Int) - ((m + 1 : Nat) : Int) := by omega
    rw [hd] at s2
    have hkn : 0 ≤ (l.length : Int) - ((m + 1 : Nat) : Int) := by omega
    have hk0 : 0 ≤ ((m + 1 : Nat) : Int) := by omega
    generalize ((m + 1 : Nat) : Int) = K at *
    generalize (l.length : Int) = N at *
    by_cases c : q + 1 ≤ x
    · have e4 : K * (q + 1) ≤ K * x := Int.mul_le_mul_of_nonneg_left c hk0
      rw [Int.mul_add, Int.mul_one] at e4
      omega
    · have e4 : (N - K) * x ≤ (N - K) * q := Int.mul_le_mul_of_nonneg_left (by omega) hkn
      rw [Int.sub_mul (c := q)] at e4
      omega
theorem tops_at {l : List Int} {k : Nat} (h : k ≤ l.length) : (tops l)[k]? = some ((sd l).take k).sum := psums_get (by rw [sd_len]; exact h)
theorem tops_level_le {l : List Int} {k : Nat} {x y : Int} (hx : (tops (level l.length l.sum))[k]? = some x) (hy : (tops l)[k]? = some y) : x ≤ y := by
  have hk : k ≤ l.length := by
    have h := (List.getElem?_eq_some_iff.mp hy).1
    rw [tops_len] at h
    omega
  rw [tops_at hk] at hy
  rw [tops_at (by rw [level_len]; exact hk), sd_level] at hx
  have e1 := Option.some.inj hx
  have e2 := Option.some.inj hy
  have h := level_below (sd_sorted l) (k := k) (by rw [sd_len]; exact hk)
  rw [sd_len, perm_sum (sd_perm l)] at h
  omega
theorem rest0 (ms : List Int) : 0 ≤ ms.sum % (ms.length : Int) := by
  cases ms with
  | nil => decide
  | cons a l => exact Int.emod_nonneg _ (by rw [List.length_cons]; omega)
theorem restn (ms : List Int) : min (ms.length : Int) (ms.sum % (ms.length : Int)) = ms.sum % (ms.length : Int) := by
  cases ms with
  | nil => decide
  | cons a l => exact Int.min_eq_right (Int.le_of_lt (Int.emod_lt_of_pos _ (by rw [List.length_cons]; omega)))
theorem spread_level' (ms : List Int) : spread (level ms.length ms.sum) = ms.sum % (ms.length : Int) * ((ms.length : Int) - ms.sum % (ms.length : Int)) := by
  cases ms with
  | nil => decide
  | cons a l => exact spread_level (by rw [List.length_cons]; omega)
/-- one more that holds more than the last -/
theorem more_step {ms : List Int} {i : Nat} (hi : i < ms.length) : min (i : Int) (ms.sum % (ms.length : Int)) + (if decide (lv ms.length ms.sum (ms.length - 1) < lv ms.length ms.sum i) = true then 1 else 0) = min ((i + 1 : Nat) : Int) (ms.sum % (ms.length : Int)) := by
  have h1 := Int.emod_lt_of_pos ms.sum (show 0 < (ms.length : Int) by omega)
  have h0 := rest0 ms
  unfold lv
  rw [if_neg (show ¬ ((ms.length - 1 : Nat) : Int) < ms.sum % (ms.length : Int) by omega)]
  by_cases c : (i : Int) < ms.sum % (ms.length : Int)
  · rw [if_pos c, decide_eq_true (by omega), if_pos rfl]
    omega
  · rw [if_neg c, decide_eq_false (by omega), if_neg Bool.false_ne_true]
    omega
end Pm

set_option Elab.async false
set_option linter.all false
/-! Pg: plain mathematics: gifts, walks, what they do to the tops and to the spread. -/
namespace Pg
open Pm
/-- does the gift (g, t, d) fit the row -/
structure Fits (ns : List Int) (g t d : Int) : Prop where
  d1 : 1 ≤ d
  g0 : 0 ≤ g
  gn : g < (ns.length : Int)
  t0 : 0 ≤ t
  tn : t < (ns.length : Int)
  more : d ≤ ns.getD g.toNat 0 - ns.getD t.toNat 0
def fitsB (ns : List Int) (g t d : Int) : Bool := decide (1 ≤ d) && decide (0 ≤ g) && decide (g < (ns.length : Int)) && decide (0 ≤ t) && decide (t < (ns.length : Int)) && decide (d ≤ ns.getD g.toNat 0 - ns.getD t.toNat 0)
theorem fitsB_iff {ns : List Int} {g t d : Int} : fitsB ns g t d = true ↔ Fits ns g t d := by
  unfold fitsB
  simp only [Bool.and_eq_true, decide_eq_true_eq]
  exact ⟨fun ⟨⟨⟨⟨⟨a, b⟩, c⟩, d⟩, e⟩, f⟩ => ⟨a, b, c, d, e, f⟩, fun ⟨a, b, c, d, e, f⟩ => ⟨⟨⟨⟨⟨a, b⟩, c⟩, d⟩, e⟩, f⟩⟩
theorem fitsB_not {ns : List Int} {g t d : Int} (h : ¬ Fits ns g t d) : fitsB ns g t d = false := by
  cases e : fitsB ns g t d with
  | false => rfl
  | true => exact absurd (fitsB_iff.mp e) h
/-- the row behind the gift -/
def done (ns : List Int) (g t d : Int) : List Int := (ns.set g.toNat (ns.getD g.toNat 0 - d)).set t.toNat (ns.getD t.toNat 0 + d)
theorem done_len (ns : List Int) (g t d : Int) : (done ns g t d).length = ns.length := by unfold done; rw [List.length_set, List.length_set]
theorem Fits.ne {ns : List Int} {g t d : Int} (h : Fits ns g t d) : g.toNat ≠ t.toNat := fun e => by
  have h1 := h.more
  have h2 := h.d1
  rw [e] at h1
  omega
theorem getD_set_ne {l : List Int} {i j : Nat} {x : Int} (h : i ≠ j) : (l.set i x).getD j 0 = l.getD j 0 := by
  rw [List.getD_eq_getElem?_getD, List.getD_eq_getElem?_getD, List.getElem?_set_ne h]
theorem msum_set (f : Int → Int) : ∀ (l : List Int) (i : Nat) (x : Int), i < l.length → ((l.set i x).map f).sum = (l.map f).sum - f (l.getD i 0) + f x
  | [], i, x, h => absurd h (Nat.not_lt_zero _)
  | a :: l, 0, x, _ => by
    show f x + (l.map f).sum = f a + (l.map f).sum - f a + f x
    omega
  | a :: l, i + 1, x, h => by
    have ih := msum_set f l i x (by simpa using h)
    show f a + ((l.set i x).map f).sum = f a + (l.map f).sum - f (l.getD i 0) + f x
    rw [ih]
    omega
/-- what a gift does to a sum over the purses -/
theorem msum_done (f : Int → Int) {ns : List Int} {g t d : Int} (h : Fits ns g t d) : ((done ns g t d).map f).sum = (ns.map f).sum - f (ns.getD g.toNat 0) - f (ns.getD t.toNat 0) + f (ns.getD g.toNat 0 - d) + f (ns.getD t.toNat 0 + d) := by
  have h1 := h.g0
  have h2 := h.gn
  have h3 := h.t0
  have h4 := h.tn
  unfold done
  rw [msum_set f _ _ _ (by rw [List.length_set]; omega), msum_set f _ _ _ (by omega), getD_set_ne h.ne]
  omega
theorem sum_done {ns : List Int} {g t d : Int} (h : Fits ns g t d) : (done ns g t d).sum = ns.sum := by
  have e := msum_done (fun x => x) h
  rw [List.map_id', List.map_id'] at e
  omega
theorem sq_done {ns : List Int} {g t d : Int} (h : Fits ns g t d) : sq (done ns g t d) = sq ns - 2 * d * (ns.getD g.toNat 0 - ns.getD t.toNat 0 - d) := by
  have e := msum_done (fun x => x * x) h
  unfold sq
  rw [e]
  generalize ns.getD g.toNat 0 = a
  generalize ns.getD t.toNat 0 = b
  grind
theorem spread_done {ns : List Int} {g t d : Int} (h : Fits ns g t d) : spread ns - spread (done ns g t d) = 2 * (ns.length : Int) * d * ((ns.getD g.toNat 0 - ns.getD t.toNat 0) - d) := by
  unfold spread
  rw [done_len, sum_done h, sq_done h]
  generalize ns.getD g.toNat 0 = a
  generalize ns.getD t.toNat 0 = b
  generalize sq ns = q
  generalize ns.sum * ns.sum = s
  generalize (ns.length : Int) = n
  grind
/-- what is held above c -/
def ab (c x : Int) : Int := max 0 (x - c)
def F (c : Int) (ns : List Int) : Int := (ns.map (ab c)).sum
theorem F_perm {a b : List Int} (c : Int) (p : a.Perm b) : F c a = F c b := perm_sum (p.map _)
theorem F_app (c : Int) (a b : List Int) : F c (a ++ b) = F c a + F c b := by unfold F; rw [List.map_append, List.sum_append]
theorem F_nonneg (c : Int) : ∀ l : List Int, 0 ≤ F c l
  | [] => by simp [F]
  | x :: l => by
    have ih := F_nonneg c l
    have e : F c (x :: l) = ab c x + F c l := by unfold F; rw [List.map_cons, List.sum_cons]
    unfold ab at e
    omega
theorem F_ge (c : Int) : ∀ l : List Int, l.sum ≤ (l.length : Int) * c + F c l
  | [] => by simp [F]
  | x :: l => by
    have ih := F_ge c l
    have e : F c (x :: l) = ab c x + F c l := by unfold F; rw [List.map_cons, List.sum_cons]
    have e2 : ((l.length + 1 : Nat) : Int) * c = (l.length : Int) * c + c := by
      rw [Int.natCast_add, Int.add_mul]
      show _ + 1 * c = _
      rw [Int.one_mul]
    rw [List.sum_cons, List.length_cons, e, e2]
    unfold ab
    omega
theorem F_above {c : Int} : ∀ {l : List Int}, (∀ x ∈ l, c ≤ x) → F c l = l.sum - (l.length : Int) * c
  | [], _ => by simp [F]
  | x :: l, h => by
    have ih := F_above (c := c) (l := l) fun y hy => h y (List.mem_cons_of_mem _ hy)
    have h1 := h x List.mem_cons_self
    have e : F c (x :: l) = ab c x + F c l := by unfold F; rw [List.map_cons, List.sum_cons]
    have e2 : ((l.length + 1 : Nat) : Int) * c = (l.length : Int) * c + c := by
      rw [Int.natCast_add, Int.add_mul]
      show _ + 1 * c = _
      rw [Int.one_mul]
    rw [List.sum_cons, List.length_cons, e, e2, ih]
    unfold ab
    omega
theorem F_below {c : Int} : ∀ {l : List Int}, (∀ x ∈ l, x ≤ c) → F c l = 0
  | [], _ => by simp [F]
  | x :: l, h => by
    have ih := F_below (c := c) (l := l) fun y hy => h y (List.mem_cons_of_mem _ hy)
    have h1 := h x List.mem_cons_self
    have e : F c (x :: l) = ab c x + F c l := by unfold F; rw [List.map_cons, List.sum_cons]
    rw [e, ih]
    unfold ab
    omega
/-- the k fullest, by what is held above c -/
theorem top_le (c : Int) (l : List Int) {k : Nat} (hk : k ≤ l.length) : (l.take k).sum ≤ (k : Int) * c + F c l := by
  have h1 := F_ge c (l.take k)
  have h2 := F_nonneg c (l.drop k)
  have h3 := F_app c (l.take k) (l.drop k)
  rw [List.take_append_drop] at h3
  rw [List.length_take, Nat.min_eq_left hk] at h1
  omega
theorem sorted_at {l : List Int} (hs : l.Pairwise (· ≥ ·)) {i j : Nat} {a b : Int} (hij : i < j) (ha : l[i]? = some a) (hb : l[j]? = some b) : b ≤ a := by
  obtain ⟨h3, rfl⟩ := List.getElem?_eq_some_iff.mp ha
  obtain ⟨h4, rfl⟩ := List.getElem?_eq_some_iff.mp hb
  exact List.pairwise_iff_getElem.mp hs i j h3 h4 hij
theorem top_eq {l : List Int} (hs : l.Pairwise (· ≥ ·)) {m : Nat} {c : Int} (hc : l[m]? = some c) : (l.take (m + 1)).sum = ((m + 1 : Nat) : Int) * c + F c l := by
  have hm : m < l.length := (List.getElem?_eq_some_iff.mp hc).1
  have g1 : ∀ y ∈ l.take (m + 1), c ≤ y := fun y hy => by
    obtain ⟨i, hi⟩ := List.mem_iff_getElem?.mp hy
    rw [List.getElem?_take] at hi
    split at hi
    · rename_i z
      by_cases e : i = m
      · subst e
        rw [hc] at hi
        have := Option.some.inj hi
        omega
      · exact sorted_at hs (show i < m by omega) hi hc
    · cases hi
  have g2 : ∀ y ∈ l.drop (m + 1), y ≤ c := fun y hy => by
    obtain ⟨i, hi⟩ := List.mem_iff_getElem?.mp hy
    rw [List.getElem?_drop] at hi
    exact sorted_at hs (show m < m + 1 + i by omega) hc hi
  have h1 := F_above g1
  have h2 := F_below g2
  have h3 := F_app c (l.take (m + 1)) (l.drop (m + 1))
  rw [List.take_append_drop] at h3
  rw [List.length_take, Nat.min_eq_left (by omega)] at h1
  omega
/-- majorized: as many, and no more above any level -/
def Le (ms ns : List Int) : Prop := ms.length = ns.length ∧ ∀ c, F c ms ≤ F c ns
theorem Le.refl (a : List Int) : Le a a := ⟨rfl, fun _ => Int.le_refl _⟩
theorem Le.trans {a b c : List Int} (h : Le a b) (k : Le b c) : Le a c := ⟨h.1.trans k.1, fun x => Int.le_trans (h.2 x) (k.2 x)⟩
theorem Le.tops {ms ns : List Int} (h : Le ms ns) {k : Nat} (hk : k ≤ ns.length) : ((sd ms).take k).sum ≤ ((sd ns).take k).sum := by
  cases k with
  | zero => simp
  | succ m =>
    have hx := getD_at (l := sd ns) (i := m) (by rw [sd_len]; omega)
    generalize (sd ns).getD m 0 = c at hx
    have h1 := top_eq (sd_sorted ns) hx
    have h2 := top_le c (sd ms) (k := m + 1) (by rw [sd_len, h.1]; exact hk)
    have h3 := h.2 c
    rw [F_perm c (sd_perm ns)] at h1
    rw [F_perm c (sd_perm ms)] at h2
    omega
theorem Le.of_tops {ms ns : List Int} (hl : ms.length = ns.length) (h : ∀ k, k ≤ ns.length → ((sd ms).take k).sum ≤ ((sd ns).take k).sum) : Le ms ns := by
  refine ⟨hl, fun c => ?_⟩
  -- take k: how many of ms hold more than c
  have hms : ∀ l : List Int, l.Pairwise (· ≥ ·) → ∃ k, k ≤ l.length ∧ F c l = (l.take k).sum - (k : Int) * c := by
    intro l
    induction l with
    | nil => intro _; exact ⟨0, Nat.le_refl _, by simp [F]⟩
    | cons x l ih =>
      intro hp
      obtain ⟨h1, h2⟩ := List.pairwise_cons.mp hp
      by_cases hx : c ≤ x
      · obtain ⟨k, hk, e⟩ := ih h2
        refine ⟨k + 1, by rw [List.length_cons]; omega, ?_⟩
        have e3 : F c (x :: l) = ab c x + F c l := by unfold F; rw [List.map_cons, List.sum_cons]
        have e2 : ((k + 1 : Nat) : Int) * c = (k : Int) * c + c := by
          rw [Int.natCast_add, Int.add_mul]
          show _ + 1 * c = _
          rw [Int.one_mul]
        rw [e3, e, List.take_succ_cons, List.sum_cons, e2]
        unfold ab
        omega
      · refine ⟨0, Nat.zero_le _, ?_⟩
        have e4 : F c (x :: l) = 0 := F_below fun y hy => by
          rcases List.mem_cons.mp hy with rfl | hy
          · omega
          · have h3 := h1 y hy
            omega
        rw [e4]
        simp
  obtain ⟨k, hk, e⟩ := hms _ (sd_sorted ms)
  rw [sd_len] at hk
  rw [F_perm c (sd_perm ms)] at e
  have h2 := top_le c (sd ns) (k := k) (by rw [sd_len]; omega)
  rw [F_perm c (sd_perm ns)] at h2
  have h3 := h k (by omega)
  omega
theorem le_done {ns : List Int} {g t d : Int} (h : Fits ns g t d) : Le (done ns g t d) ns := by
  refine ⟨done_len _ _ _ _, fun c => ?_⟩
  have e := msum_done (ab c) h
  unfold F
  rw [e]
  have h1 := h.more
  have h2 := h.d1
  unfold ab
  omega
theorem le_level (ns : List Int) : Le (level ns.length ns.sum) ns := Le.of_tops (level_len _ _) fun k hk => by
  rw [sd_level]
  have h := level_below (sd_sorted ns) (k := k) (by rw [sd_len]; exact hk)
  rw [sd_len, perm_sum (sd_perm ns)] at h
  exact h
theorem bd_done {n : Nat} {ns : List Int} {g t d : Int} (h : Fits ns g t d) (hb : ∀ z ∈ ns, Px.Bd n z) : ∀ z ∈ done ns g t d, Px.Bd n z := by
  have h1 := h.g0
  have h2 := h.gn
  have h3 := h.t0
  have h4 := h.tn
  have h5 := h.more
  have h6 := h.d1
  have b1 : Px.Bd n (ns.getD g.toNat 0) := hb _ (by
    have e := getD_at (l := ns) (i := g.toNat) (by omega)
    exact List.mem_of_getElem? e)
  have b2 : Px.Bd n (ns.getD t.toNat 0) := hb _ (by
    have e := getD_at (l := ns) (i := t.toNat) (by omega)
    exact List.mem_of_getElem? e)
  intro z hz
  unfold done at hz
  rcases List.mem_or_eq_of_mem_set hz with hz | rfl
  · rcases List.mem_or_eq_of_mem_set hz with hz | rfl
    · exact hb z hz
    · unfold Px.Bd at *
      omega
  · unfold Px.Bd at *
    omega
/-- a list of gifts, one by one -/
abbrev Gift := Int × Int × Int
def walk : List Int → List Gift → Option (List Int)
  | ns, [] => some ns
  | ns, (g, t, d) :: r => if fitsB ns g t d = true then walk (done ns g t d) r else none
theorem walk_app : ∀ (ns : List Int) (a b : List Gift), walk ns (a ++ b) = (walk ns a).bind fun ms => walk ms b
  | ns, [], b => rfl
  | ns, (g, t, d) :: a, b => by
    show (if fitsB ns g t d = true then walk (done ns g t d) (a ++ b) else none) = (if fitsB ns g t d = true then walk (done ns g t d) a else none).bind _
    by_cases h : fitsB ns g t d = true
    · rw [if_pos h, if_pos h]
      exact walk_app _ a b
    · rw [if_neg h, if_neg h]
      rfl
theorem walk_one {ns : List Int} {g t d : Int} (h : Fits ns g t d) : walk ns [(g, t, d)] = some (done ns g t d) := by
  show (if fitsB ns g t d = true then some (done ns g t d) else none) = _
  rw [if_pos (fitsB_iff.mpr h)]
theorem walk_bad {ns : List Int} {g t d : Int} {r : List Gift} (h : ¬ Fits ns g t d) : walk ns ((g, t, d) :: r) = none := by
  show (if fitsB ns g t d = true then walk (done ns g t d) r else none) = none
  rw [if_neg fun z => h (fitsB_iff.mp z)]
theorem walk_snoc {ns ms : List Int} {a : List Gift} {g t d : Int} (h : walk ns a = some ms) (k : Fits ms g t d) : walk ns (a ++ [(g, t, d)]) = some (done ms g t d) := by
  rw [walk_app, h]
  exact walk_one k
theorem walk_stop {ns ms : List Int} {a b : List Gift} {g t d : Int} (h : walk ns a = some ms) (k : ¬ Fits ms g t d) : walk ns (a ++ (g, t, d) :: b) = none := by
  rw [walk_app, h]
  exact walk_bad k
theorem walk_len : ∀ {ns ms : List Int} {a : List Gift}, walk ns a = some ms → ms.length = ns.length
  | ns, ms, [], h => by
    have e : ns = ms := Option.some.inj h
    rw [e]
  | ns, ms, (g, t, d) :: a, h => by
    have h2 : (if fitsB ns g t d = true then walk (done ns g t d) a else none) = some ms := h
    split at h2
    · rw [walk_len h2, done_len]
    · cases h2
theorem walk_le : ∀ {ns ms : List Int} {a : List Gift}, walk ns a = some ms → Le ms ns ∧ ms.sum = ns.sum
  | ns, ms, [], h => by
    have e : ns = ms := Option.some.inj h
    rw [e]
    exact ⟨Le.refl _, rfl⟩
  | ns, ms, (g, t, d) :: a, h => by
    have h2 : (if fitsB ns g t d = true then walk (done ns g t d) a else none) = some ms := h
    split at h2
    · rename_i c
      have f := fitsB_iff.mp c
      have h3 := walk_le h2
      exact ⟨h3.1.trans (le_done f), h3.2.trans (sum_done f)⟩
    · cases h2
end Pg

set_option Elab.async false
set_option linter.all false
set_option maxRecDepth 100000
set_option maxHeartbeats 4000000
/-! Pr: list(reversed(xs)). -/
namespace RT
open PySem PySem.Spec PyProof.Rows L2
section
variable {prog : Program} {w : World} {A : Around} {E : Value → Shared → Prop} {s : Shared}
theorem extend_rev {R : Result → Shared → Prop} {it l : Addr} {items : Array Value} {c₀ : Nat} (hh : A.handled = none) (hit : s.heap.IsRevIter it l ((items.size : Int) - 1)) (hl : s.heap.IsList l items) (hne : l ≠ it) (hn : items.size ≤ sizeLine)
    (S : Addr) (hSi : S ≠ it) (hSl : S ≠ l) (res : Value) (hS : s.heap.get? S = some { cls := .type "list", dict := none, data := .seq #[] c₀, slots := #[] })
    (hR : ∀ (h' : Heap) (tk : Nat) (acc : Array Value) (c' : Nat), (∀ b o, b ≠ it → b ≠ S → s.heap.get? b = some o → h'.get? b = some o) → h'.get? S = some { cls := .type "list", dict := none, data := .seq acc c', slots := #[] } →
      ItemsOf (fun i v => items[items.size - 1 - i]? = some v) acc items.size → R (.ok (.ret res)) { s with heap := h', toks := tk }) :
    wpAny (model prog w) A.in1 (Builtin.List.listExtendWith (.ref S) (.ref it) res)
      (fun fin s' => match fin with | .done f => R (.ok f) s' | .again c' => c'.quiet = true ∧ codeAny (model prog w) A c' R s') (fun e s' => R (.error e) s') s := by
  have W := (Walks.listRev (prog := prog) (w := w) (A := A.in1) hh it l hne items).toS
  have hSf : S ∉ [it, l] := by simp only [List.mem_cons, List.not_mem_nil, or_false, not_or]; exact ⟨hSi, hSl⟩
  have hT : s.TypeIs (.ref it) "list_reverseiterator" := Heap.IsRevIter.typeIs hit
  have h1 : Builtin.List.listSameRef (.ref S) (.ref it) = false := by simp [Builtin.List.listSameRef, hSi]
  unfold Builtin.List.listExtendWith
  refine wpAny_bind (wpAny_typeOf hT ?_)
  rw [if_neg (by rw [h1]; decide)]
  refine wpAny_bind (wpAny_pyIter_revIter hit ?_)
  refine wpAny_bind (wpAny_holding ?_)
  unfold Builtin.List.listLengthHint
  refine wpAny_bind (wpAny_specialOf hT nolen_lri ?_)
  show wpAny _ A.in1 (specialOf (Value.ref it) (Str.ofString "__length_hint__") >>= _) _ _ _
  refine wpAny_bind (wpAny_specialOf hT hint_lri ?_)
  generalize hid : ("list_reverseiterator.__length_hint__" : String) = id0
  wp_delta
  rw [show splitId id0 = some ("list_reverseiterator", "__length_hint__") from by subst hid; decide +kernel]
  subst hid
  refine wpAny_bind (wpAny_isInstance (b := true) hT (by rw [isSubtype_type]; kernel_rfl) ?_)
  refine wpAny_pure ?_
  rw [if_neg (by decide)]
  have e0 : ((items.size : Nat) : Int) - 1 - ((0 : Nat) : Int) = (items.size : Int) - 1 := by omega
  refine wpAny_pure ⟨plainId_quiet F.plain_extend_loop _, codeAny_extend_loopS W hn _ hSf _ items.size 0 _ _ _ rfl (Nat.zero_le _) ⟨Nat.zero_le _, by rw [e0]; exact hit, hl⟩ hS (ItemsOf.nil _) fun s' acc' c' hm hS' hacc => ?_⟩
  rw [Moved.eq_with hm]
  refine hR s'.heap s'.toks acc' c' (fun b o hb hb2 e => hm.heap b o (fun hmem => ?_) e) hS' hacc
  rcases List.mem_cons.mp hmem with e' | hmem
  · exact hb2 e'
  · exact hb (List.mem_singleton.mp hmem)
theorem list_init_rev {R : Result → Shared → Prop} {it l : Addr} {items : Array Value} (hh : A.handled = none) (hit : s.heap.IsRevIter it l ((items.size : Int) - 1)) (hl : s.heap.IsList l items) (hne : l ≠ it) (hn : items.size ≤ sizeLine)
    (S : Addr) (hSi : S ≠ it) (hSl : S ≠ l) (hS : s.heap.get? S = some { cls := .type "list", data := .seq #[] })
    (hR : ∀ (h' : Heap) (tk : Nat) (acc : Array Value) (c' : Nat), (∀ b o, b ≠ it → b ≠ S → s.heap.get? b = some o → h'.get? b = some o) → h'.get? S = some { cls := .type "list", dict := none, data := .seq acc c', slots := #[] } →
      ItemsOf (fun i v => items[items.size - 1 - i]? = some v) acc items.size → R (.ok (.ret .none)) { s with heap := h', toks := tk }) :
    wpAny (model prog w) A.in1 (Builtin.«list.__init__» ⟨[.ref S, .ref it], []⟩)
      (fun fin s' => match fin with | .done f => R (.ok f) s' | .again c' => c'.quiet = true ∧ codeAny (model prog w) A c' R s') (fun e s' => R (.error e) s') s := by
  show wpAny _ _ (do let old ← Builtin.List.listItems (.ref S); Builtin.List.listUpdate (.ref S) (fun _ => #[]); letGo old.toList.reverse; Builtin.List.listExtendWith (.ref S) (.ref it) .none) _ _ s
  refine wpAny_bind ?_
  unfold Builtin.List.listItems
  refine wpAny_bind (wpAny_seqItems hS rfl (wpAny_pure ?_))
  show wpAny _ _ (updateSeq S (fun _ => #[]) >>= fun _ => letGo (#[] : Array Value).toList.reverse >>= fun _ => Builtin.List.listExtendWith (.ref S) (.ref it) .none) _ _ s
  refine wpAny_bind (wpAny_updateSeq hS rfl ?_)
  have hS₂ := Heap.get?_update_self (Obj.mapSeq (fun _ => (#[] : Array Value))) hS rfl
  have oth : ∀ b o, b ≠ S → s.heap.get? b = some o → (s.heap.update S (Obj.mapSeq (fun _ => (#[] : Array Value)))).get? b = some o :=
    fun b o hb e => (Heap.get?_update_other _ _ (Ne.symm hb)).trans e
  refine wpAny_bind (wpAny_letGo ?_)
  have hl2 : (s.heap.update S (Obj.mapSeq (fun _ => (#[] : Array Value)))).IsList l items := by
    obtain ⟨o, ho, r⟩ := hl
    exact ⟨o, oth l o (Ne.symm hSl) ho, r⟩
  refine extend_rev (s := { s with heap := s.heap.update S (Obj.mapSeq (fun _ => (#[] : Array Value))) }) hh (hit.at fun o e => oth it o (Ne.symm hSi) e) hl2 hne hn S hSi hSl .none hS₂ fun h' tk acc' c' hk hS' hacc => ?_
  exact hR h' tk acc' c' (fun b o hb hb2 e => hk b o hb hb2 (oth b o hb2 e)) hS' hacc
theorem call_list_rev {Q : Value → Shared → Prop} {it l : Addr} {items : Array Value} (hh : A.handled = none) (hit : s.heap.IsRevIter it l ((items.size : Int) - 1)) (hl : s.heap.IsList l items) (hne : l ≠ it) (hn : items.size ≤ sizeLine)
    (hQ : ∀ (h' : Heap) (tk : Nat) (acc : Array Value) (c' : Nat), (∀ b o, b ≠ it → s.heap.get? b = some o → h'.get? b = some o) → h'.get? s.heap.objs.size = some { cls := .type "list", dict := none, data := .seq acc c', slots := #[] } →
      ItemsOf (fun i v => items[items.size - 1 - i]? = some v) acc items.size → Q (.ref s.heap.objs.size) { s with heap := h', toks := tk }) :
    wpAny (model prog w) A (call (.type "list") [.ref it]) Q E s := by
  refine callType_codes (Q₁ := fun obj s₁ => obj = .ref s.heap.objs.size ∧ s₁ = { s with heap := s.heap.push { cls := .type "list", data := .seq #[] } }) F.called_list (F.typeCall_list_1 _) F.entry_list_init
    (code_list_new _ ⟨rfl, rfl⟩) fun obj s₁ h₁ => ?_
  obtain ⟨rfl, rfl⟩ := h₁
  have hS : (s.heap.push { cls := .type "list", data := .seq #[] }).get? s.heap.objs.size = some { cls := .type "list", data := .seq #[] } := Heap.get?_push_size _ rfl
  obtain ⟨oi, hoi, _⟩ := id hit
  obtain ⟨ol, hol, _⟩ := id hl
  have hSi : s.heap.objs.size ≠ it := Nat.ne_of_gt (Heap.lt_size hoi)
  have hSl : s.heap.objs.size ≠ l := Nat.ne_of_gt (Heap.lt_size hol)
  refine ⟨⟨_, hS, rfl⟩, F.args_list_init_2 _ _, list_init_rev (A := A.in1) hh (hit.at fun o e => Heap.get?_push_of_some _ e) (hl.push _) hne hn _ hSi hSl hS fun h' tk acc' c' hk hS' hacc => ?_⟩
  exact ⟨rfl, hQ h' tk acc' c' (fun b o hb e => hk b o hb (Nat.ne_of_lt (Heap.lt_size e)) (Heap.get?_push_of_some _ e)) hS' hacc⟩
end
end RT
namespace Px
open PySem PySem.Spec PyProof.Rows L2 Evl
section
variable {X : Cx}
/-- list(reversed(x)), x a list: a new list -/
def tLstRev (K : PySem.W.Frag) (te : TE) : TE := fun σ H Q => te σ H fun v H1 => ∃ (a : Addr) (xs : List V), v = .ref a ∧ SqL K H1 a xs ∧ ∀ q, H1 q = none → Q (.ref q) (upd H1 q (.lst xs.reverse))
theorem pe_lstRev {K : PySem.W.Frag} {e : Expr} {te : TE} {p p2 pos pos2 : Pos} (hc : X.calm = true) (hg : Gl X "list") (hm : X.mg "list" = none) (hg2 : Gl X "reversed") (hm2 : X.mg "reversed" = none) (he : PE X e te) (hK : X.K = K := by rfl)
    (hs : starEach [e] X.env = (false, eval e X.env) :: starEach [] X.env := by rfl)
    (hs2 : starEach [.Call (.Name "reversed" p2) [e] [] pos2] X.env = (false, eval (.Call (.Name "reversed" p2) [e] [] pos2) X.env) :: starEach [] X.env := by rfl) :
    PE X (.Call (.Name "list" p) [.Call (.Name "reversed" p2) [e] [] pos2] [] pos) (tLstRev K te) := by
  subst hK
  refine ⟨fun pins s σ H Q I h => ?_⟩
  refine Call_ (ld_blt I hg hm boot_list (PyProof.Rows.callWith_type1 (args_cons (Call_ (ld_blt I hg2 hm2 PyProof.Rows.boot_reversed (PyProof.Rows.callWith_type1 (args_cons (thn (he.run pins s σ H _ I h) fun u s1 ⟨v, H1, I1, r1, q1⟩ => args_nil ?_) hs) hs rfl))) hs2) hs2 rfl))
  obtain ⟨a, xs, ev, hq, q⟩ := q1
  subst ev
  obtain rfl : u = Value.ref a := r1
  obtain ⟨its, rv, p', hz⟩ := I1.list hq
  refine call_reversed_list p'.isList (args_nil ?_)
  have k0 : ∀ b o, s1.heap.get? b = some o → (s1.heap.push (revObj a ((its.toArray.size : Int) - 1))).get? b = some o := fun b o e => Heap.get?_push_of_some _ e
  have hl := p'.isList
  obtain ⟨ol, hol, _⟩ := id hl
  have hne : a ≠ s1.heap.objs.size := Nat.ne_of_lt (Heap.lt_size hol)
  have hn : its.toArray.size ≤ sizeLine := by rw [List.size_toArray, ← rv.length]; exact hz
  refine RT.call_list_rev (s := { s1 with heap := s1.heap.push (revObj a ((its.toArray.size : Int) - 1)) }) (I1.ok.hd hc) ⟨_, Heap.get?_push_size _ rfl, rfl, rfl⟩ (hl.push _) hne hn fun h' tk acc c' hk hS hi => ?_
  have hsz : s1.heap.objs.size ≤ (s1.heap.push (revObj a ((its.toArray.size : Int) - 1))).objs.size := by
    show s1.heap.objs.size ≤ (s1.heap.objs.push _).size
    rw [Array.size_push]
    exact Nat.le_succ _
  refine ⟨.ref (s1.heap.push (revObj a ((its.toArray.size : Int) - 1))).objs.size, upd H1 (s1.heap.push (revObj a ((its.toArray.size : Int) - 1))).objs.size (.lst xs.reverse), I1.laid (t' := tk) (fun b o e => hk b o (Nat.ne_of_lt (Heap.lt_size e)) (k0 b o e)) hsz
    (show ObjOk X.prog X.w _ _ _ (.lst xs.reverse) from ⟨by rw [List.length_reverse]; exact hz, acc.toList, c', RT.vals_rev rv hi, ?_⟩), rfl, q _ (I1.hok.fresh hsz)⟩
  rw [Array.toArray_toList]
  exact hS
theorem k_lstRev {K : PySem.W.Frag} {σ : L2.St} {H : Hp} {te : TE} {P : V → Hp → Prop} (h : EvK te σ H fun v Hx => ∃ (a : Addr) (xs : List V), v = .ref a ∧ SqL K Hx a xs ∧ ∀ q, Hx q = none → P (.ref q) (upd Hx q (.lst xs.reverse))) : EvK (tLstRev K te) σ H P := fun H1 e Q k =>
  h H1 e _ fun v H2 ⟨Hx, ex, a, xs, ev, hq, hp⟩ => ⟨a, xs, ev, ex_l ex hq, fun q nq => k _ _ ⟨_, Ex.updm ex, hp q (fresh_back ex nq)⟩⟩
end
end Px

set_option Elab.async false
set_option linter.all false
set_option maxRecDepth 100000
set_option maxHeartbeats 4000000
/-! Pq: more of the calculus: comprehensions told by a word, tuples cut and walked, except clauses one after the other. -/
namespace Px
open PySem PySem.Spec PyProof.Rows L2 Evl
theorem blkOk_rel {N : List Str} {outer inner : Scope} {env e0 : Env} {own : List (Str × Nat)} (hd : blkC N (relabel outer e0) inner own = true) (h : relabel outer env = relabel outer e0 := by rfl) : BlkOk N (relabel outer env) inner own := h ▸ blkOk_by hd
theorem boot_ValueError : bootBuiltins "ValueError" = some (.type "ValueError") := by decide +kernel
section
variable {K : PySem.W.Frag} {σ : L2.St} {H H' : Hp} {ta tb tc te tx : TE} {t u : TT} {x y z v : V} {r r' : R2} {P : V → Hp → Prop} {D : Ends} {s s2 w : TS}
theorem r_eqB {a b : Bool} (h : P (.bl (decide (a = b))) H) : RK rEq (.bl a) (.bl b) H P := r_eq ⟨rfl, by
  have e : decide (V.bl a = V.bl b) = decide (a = b) := by
    by_cases c : a = b
    · subst c
      rw [decide_eq_true rfl, decide_eq_true rfl]
    · rw [decide_eq_false c, decide_eq_false fun z => c (V.bl.inj z)]
  rw [e]
  exact h⟩
theorem r_neB {a b : Bool} (h : P (.bl (!decide (a = b))) H) : RK rNe (.bl a) (.bl b) H P := r_ne ⟨rfl, by
  have e : decide (V.bl a = V.bl b) = decide (a = b) := by
    by_cases c : a = b
    · subst c
      rw [decide_eq_true rfl, decide_eq_true rfl]
    · rw [decide_eq_false c, decide_eq_false fun z => c (V.bl.inj z)]
  rw [e]
  exact h⟩
theorem r_eqT {a b : Str} (h : P (.bl (decide (a = b))) H) : RK rEq (.str a) (.str b) H P := r_eq ⟨rfl, by
  have e : decide (V.str a = V.str b) = decide (a = b) := by
    by_cases c : a = b
    · subst c
      rw [decide_eq_true rfl, decide_eq_true rfl]
    · rw [decide_eq_false c, decide_eq_false fun z => c (V.str.inj z)]
  rw [e]
  exact h⟩
theorem r_neT {a b : Str} (h : P (.bl (!decide (a = b))) H) : RK rNe (.str a) (.str b) H P := r_ne ⟨rfl, by
  have e : decide (V.str a = V.str b) = decide (a = b) := by
    by_cases c : a = b
    · subst c
      rw [decide_eq_true rfl, decide_eq_true rfl]
    · rw [decide_eq_false c, decide_eq_false fun z => c (V.str.inj z)]
  rw [e]
  exact h⟩
theorem c_abs {i : Int} (hp : P (.int (if i < 0 then -i else i)) H) : CK (fun xs H Q => ∃ i, xs = [.int i] ∧ Q (.int (if i < 0 then -i else i)) H) [.int i] H P := fun H1 e Q k => ⟨i, rfl, k _ _ ⟨H, e, hp⟩⟩
theorem r_slT {p : Addr} {xs : List V} {lo hi : Option Int} (h : SqT K H p xs) (hw : ¬ (HT.sIx xs.length 0 lo = 0 ∧ HT.sIx xs.length xs.length hi = xs.length)) (hp : ∀ q, H q = none → P (.ref q) (upd H q (.tup (cutV xs lo hi)))) : Kc (rSlT K (.ref p) lo hi) H P := fun H1 e Q k => ⟨p, xs, rfl, ex_t e h, hw, fun q nq => k _ _ ⟨_, Ex.updm e, hp q (fresh_back e nq)⟩⟩
/-- over a tuple that is made on the way -/
theorem gs_forT {j : Nat} (h : EvK te σ H fun v Hx => ∃ (a : Addr) (xs : List V) (Pv : Nat → L2.St → Hp → Prop), v = .ref a ∧ SqT K Hx a xs ∧ Pv 0 σ Hx ∧ (∀ i σ' H', i ≤ xs.length → Pv i σ' H' → SqT K H' a xs) ∧
    (∀ i x σ' H', xs[i]? = some x → Pv i σ' H' → Go s { D with nx := Lp Pv (i + 1), ct := Lp Pv (i + 1), bk := w D } (σ'.set j (some x)) H') ∧ (∀ σ' H', Pv xs.length σ' H' → Go w D σ' H')) : Go (tSeq (tFor (iTup K te) (gName j) s) w) D σ H := fun H1 e =>
  h H1 e _ fun v H2 ⟨Hx, ex, a, xs, Pv, ev, hq, h0, hl, hs, hd⟩ => ⟨a, ev, ⟨xs, ex_t ex hq⟩, for_tup (D := { D with nx := w D }) (Lp Pv) ⟨Hx, ex, h0⟩ (fun i σ' H' hi ⟨Hy, ey, p⟩ => ex_t ey (hl i σ' Hy hi p)) (fun i x σ' H' hi ⟨Hy, ey, p⟩ => hs i x σ' Hy hi p H' ey) (fun σ' H' ⟨Hy, ey, p⟩ => hd σ' Hy p H' ey)⟩

theorem cut_fromN {xs : List V} {k : Nat} (h : k ≤ xs.length) : cutV xs (some (k : Int)) none = xs.drop k := by
  unfold cutV
  rw [show HT.sIx xs.length 0 (some (k : Int)) = min k xs.length from HT.sIx_nat xs.length 0 k, HT.sIx_none, Nat.min_eq_left h]
  exact List.take_of_length_le (by rw [List.length_drop]; omega)
theorem dp_two {h x y : Addr} {ns ms : List Int} (hh : SqL K H h [.ref x, .ref y]) (hx : SqL K H x (ns.map V.int)) (hy : SqL K H y (ms.map V.int)) : Dp K H (.ref h) (.list [.list (ns.map PyData.int), .list (ms.map PyData.int)]) := .lst hh (.cons (dp_ints hx) (.cons (dp_ints hy) .nil))
theorem sh_two (ns ms : List Int) : SeqAt.shaped (.list [.list (ns.map PyData.int), .list (ms.map PyData.int)]) = true := by
  show ((PyData.canLayAll0 (ns.map PyData.int) && (PyData.canLayAll0 (ms.map PyData.int) && true)) && decide (max (PyData.depthAll (ns.map PyData.int) + 1) (max (PyData.depthAll (ms.map PyData.int) + 1) 0) + 1 ≤ 64)) = true
  rw [lay_ints, lay_ints, dep_ints, dep_ints]
  rfl
/-! ### while: a word (Pv) of a measure that falls -/
def Lw (Pv : Nat → L2.St → Hp → Prop) (m : Nat) (σ : L2.St) (H : Hp) : Prop := ∃ m' Hx, m' < m ∧ Ex Hx H ∧ Pv m' σ Hx
theorem gs_while {t : TT} (Pv : Nat → L2.St → Hp → Prop) {m0 : Nat} (h0 : Pv m0 σ H) (ht : ∀ m σ' H', Pv m σ' H' → EvTK t σ' H' fun b Hx => (b = true → Go s { D with nx := Lw Pv m, ct := Lw Pv m, bk := w D } σ' Hx) ∧ (b = false → Go w D σ' Hx)) : Go (tSeq (tWhile t s) w) D σ H := fun H1 e =>
  ⟨fun m σ' H' => ∃ Hx, Ex Hx H' ∧ Pv m σ' Hx, ⟨m0, H, e, h0⟩, fun m σ' H' ⟨Hx, ex, p⟩ => ht m σ' Hx p H' ex _ fun b H2 ⟨Hy, ey, hT, hF⟩ => by
    cases b with
    | true =>
      rw [if_pos rfl]
      exact ⟨Lw Pv m, fun σ2 H3 ⟨m', Hz, hm, ez, pz⟩ => ⟨m', hm, Hz, ez, pz⟩, hT rfl H2 ey⟩
    | false =>
      rw [if_neg Bool.false_ne_true]
      exact hF rfl H2 ey⟩
/-! ### try -/
def tTry (tb : WX → TS) (W : Ends → WX) : TS := fun D σ H => tb (W D) D σ H
theorem gs_try {tb : WX → TS} {W : Ends → WX} (h : Go (tb (W { D with nx := w D })) { D with nx := w D } σ H) : Go (tSeq (tTry tb W) w) D σ H := h
theorem g1_try {tb : WX → TS} {W : Ends → WX} (h : Go (tb (W D)) D σ H) : Go (tTry tb W) D σ H := h
theorem ps_tryAs {X : Cx} {x n : Str} {c : Value} {i : Nat} {body suite : List Stmt} {b₀ : Stmt} {np pos pos' : Pos} {tb : WX → TS} {ts : Addr → Value → Option Addr → TS} {Wout : WX} (hs : X.stack = X.env :: X.outer) (hf : X.env.frame = some X.env.locals) (hN : X.N.Nodup) (hi : X.N[i]? = some n) (hln : X.env.kindOf n = some .local) (hc : Names X x c) (tk : Takes X Wout)
    (hb : ∀ (W : WX) (pn : List (Addr × Obj)) (xe : Value → Shared → Prop), Takes (X.tr pn xe) W → PassesOwn (model X.prog X.w) X.A X.env xe → PSs (X.tr pn xe) body (tb W))
    (hsu : ∀ (a : Addr) (oe : Obj) (cls : Value) (d : Option Addr) (pn : List (Addr × Obj)), Zc cls d oe → (∃ vs, oe.data = .fields vs) → PSs (X.suite a ((a, oe) :: pn)) (b₀ :: suite) (ts a cls d)) (hK : X.K = K := by rfl) :
    PS X (.Try body [.ExceptHandler (some (.Name x np)) (some n) (b₀ :: suite) pos'] [] [] pos) (tTry tb (wAs K c i ts Wout)) := by
  subst hK
  exact ps_try_as hs hf hN hi hln hc tk hb hsu
theorem ps_tryMany {X : Cx} {body : List Stmt} {h₀ : ExceptHandler} {hds : List ExceptHandler} {l : List (Value × (Addr → Value → Option Addr → TS))} {pos : Pos} {tb : WX → TS} {Wout : WX} (hs : X.stack = X.env :: X.outer) (hf : X.env.frame = some X.env.locals) (tk : Takes X Wout)
    (hb : ∀ (W : WX) (pn : List (Addr × Obj)) (xe : Value → Shared → Prop), Takes (X.tr pn xe) W → PassesOwn (model X.prog X.w) X.A X.env xe → PSs (X.tr pn xe) body (tb W))
    (hh : HdsOk X (h₀ :: hds) l) (hK : X.K = K := by rfl) : PS X (.Try body (h₀ :: hds) [] [] pos) (tTry tb (fun D => wMany K Wout D l)) := by
  subst hK
  exact ps_try_many hs hf tk hb hh
/-- the last assignment of a suite of 'except .. as n' (slot k) -/
theorem g1_asgA {i k : Nat} (h : EvK te σ H fun v Hx => Go w D ((σ.set i (some v)).set k none) Hx) : Go (tAsg te (gName i)) { nx := fun σ' H' => Ends.nx { D with nx := w D } (σ'.set k none) H', rt := Ends.rt { D with nx := w D }, bk := fun σ' H' => Ends.bk { D with nx := w D } (σ'.set k none) H', ct := fun σ' H' => Ends.ct { D with nx := w D } (σ'.set k none) H' } σ H := g1_asg h
/-! ### except clauses, one after the other -/
theorem ke_yes {c : Value} {ts : Addr → Value → Option Addr → TS} {Wout : WX} {l : List (Value × (Addr → Value → Option Addr → TS))} {cls : Value} {d : Option Addr} (he : PySem.W.exmOne K cls c = some true)
    (h : ∀ a, H a = none → Go (ts a cls d) D σ H) : KE (WE (wMany K Wout D ((c, ts) :: l)) σ) cls d H := fun H1 e => ⟨true, he, fun _ a na => h a (fresh_back e na) H1 e, fun q => Bool.noConfusion q⟩
theorem ke_no {c : Value} {ts : Addr → Value → Option Addr → TS} {Wout : WX} {l : List (Value × (Addr → Value → Option Addr → TS))} {cls : Value} {d : Option Addr} (he : PySem.W.exmOne K cls c = some false)
    (h : KE (WE (wMany K Wout D l) σ) cls d H) : KE (WE (wMany K Wout D ((c, ts) :: l)) σ) cls d H := fun H1 e => ⟨false, he, fun q => Bool.noConfusion q, fun _ => h H1 e⟩

/-! ### comprehensions told by a word: the list so far at D, the heap that matters -/
theorem k_lcW {g : TG} {tt : TT} {vs : List Nat} {tl : TE} (h : EvK tl σ H fun w Hx => ∃ (a : Addr) (xs : List V) (Pv : Addr → Nat → List V → Hp → Prop), w = .ref a ∧ xs.length ≤ 40000 ∧ SqL K Hx a xs ∧
      (∀ D, Hx D = none → Pv D 0 [] (upd Hx D (.lst []))) ∧ (∀ D i acc Hy, Hx D = none → Pv D i acc Hy → SqL K Hy a xs ∧ acc.length ≤ i ∧ Hy D = some (.lst acc)) ∧
      (∀ D i x acc Hy, Hx D = none → xs[i]? = some x → Pv D i acc Hy → GK g x (wipe σ vs) Hy fun σ2 H2 => wipe σ2 vs = wipe σ vs ∧ EvTK tt σ2 H2 fun b H3 => (b = true → EvK te σ2 H3 fun y H4 => H4 D = some (.lst acc) ∧ Pv D (i + 1) (acc ++ [y]) (upd H4 D (.lst (acc ++ [y])))) ∧ (b = false → Pv D (i + 1) acc H3)) ∧
      (∀ D acc Hy, Hx D = none → Pv D xs.length acc Hy → P (.ref D) Hy)) : EvK (tLc (iList K tl) g tt te vs) σ H P := fun H1 e Q k =>
  h H1 e _ fun w H2 ⟨Hx, ex, a, xs, Pv, ev, hn, hq, h0, hl, hs, hd⟩ => ⟨a, ev, ⟨xs, ex_l ex hq⟩, fun p np => by
    have npx : Hx p = none := fresh_back ex np
    refine lc_list (xs := xs) (fun i H' => ∃ acc Hy, Ex Hy H' ∧ Pv p i acc Hy) ⟨[], _, Ex.updm ex, h0 p npx⟩ (fun i H' _ ⟨acc, Hy, ey, q⟩ => ex_l ey (hl p i acc Hy npx q).1) (fun i x H' hi ⟨acc, Hy, ey, q⟩ => ?_) (fun H' ⟨acc, Hy, ey, q⟩ => k _ _ ⟨Hy, ey, hd p acc Hy npx q⟩)
    have hlt : i < xs.length := (List.getElem?_eq_some_iff.mp hi).1
    obtain ⟨_, hal, haD⟩ := hl p i acc Hy npx q
    refine hs p i x acc Hy npx hi q H' ey _ fun σ2 H3 ⟨Hz, ez, hw, ht⟩ => ⟨hw, ht H3 ez _ fun b H4 ⟨Hu, eu, hT, hF⟩ => ?_⟩
    cases b with
    | true =>
      rw [if_pos rfl]
      exact hT rfl H4 eu _ fun y H5 ⟨Hv, ev, hD, q5⟩ => ⟨acc, ev _ _ hD, sz_lt (by omega), acc ++ [y], _, Ex.updm ev, q5⟩
    | false =>
      rw [if_neg Bool.false_ne_true]
      exact ⟨acc, Hu, eu, hF rfl⟩⟩
theorem k_lcWR {g : TG} {tt : TT} {vs : List Nat} {tl : TA} (h : EvAK tl σ H fun ws Hx => ∃ (n : Int) (Pv : Addr → Nat → List V → Hp → Prop), ws = [.int n] ∧ n ≤ 40000 ∧ 0 ≤ n ∧
      (∀ D, Hx D = none → Pv D 0 [] (upd Hx D (.lst []))) ∧ (∀ D i acc Hy, Hx D = none → Pv D i acc Hy → acc.length ≤ i ∧ Hy D = some (.lst acc)) ∧
      (∀ D (i : Nat) acc Hy, Hx D = none → (i : Int) < n → Pv D i acc Hy → GK g (.int (i : Int)) (wipe σ vs) Hy fun σ2 H2 => wipe σ2 vs = wipe σ vs ∧ EvTK tt σ2 H2 fun b H3 => (b = true → EvK te σ2 H3 fun y H4 => H4 D = some (.lst acc) ∧ Pv D (i + 1) (acc ++ [y]) (upd H4 D (.lst (acc ++ [y])))) ∧ (b = false → Pv D (i + 1) acc H3)) ∧
      (∀ D acc Hy, Hx D = none → Pv D n.toNat acc Hy → P (.ref D) Hy)) : EvK (tLc (iRng1 tl) g tt te vs) σ H P := fun H1 e Q k =>
  h H1 e _ fun w H2 ⟨Hx, ex, n, Pv, ev, hn, hn0, h0, hl, hs, hd⟩ => ⟨n, ev, by omega, by omega, fun p np => by
    have npx : Hx p = none := fresh_back ex np
    refine lc_range (lo := 0) (n := n.toNat) (fun i H' => ∃ acc Hy, Ex Hy H' ∧ Pv p i acc Hy) ⟨[], _, Ex.updm ex, h0 p npx⟩ (fun i H' hi ⟨acc, Hy, ey, q⟩ => ?_) (fun H' ⟨acc, Hy, ey, q⟩ => k _ _ ⟨Hy, ey, hd p acc Hy npx q⟩)
    obtain ⟨hal, haD⟩ := hl p i acc Hy npx q
    have e0 : (0 : Int) + (i : Int) = (i : Int) := Int.zero_add _
    show g (.int ((0 : Int) + (i : Int))) (wipe σ vs) H' _
    rw [e0]
    refine hs p i acc Hy npx (by omega) q H' ey _ fun σ2 H3 ⟨Hz, ez, hw, ht⟩ => ⟨hw, ht H3 ez _ fun b H4 ⟨Hu, eu, hT, hF⟩ => ?_⟩
    cases b with
    | true =>
      rw [if_pos rfl]
      exact hT rfl H4 eu _ fun y H5 ⟨Hv, ev, hD, q5⟩ => ⟨acc, ev _ _ hD, sz_lt (by omega), acc ++ [y], _, Ex.updm ev, q5⟩
    | false =>
      rw [if_neg Bool.false_ne_true]
      exact ⟨acc, Hu, eu, hF rfl⟩⟩
/-- [e for x, y in zip(xs, ys)], the targets names -/
theorem k_lcZ {i j : Nat} {vs : List Nat} {tl : TA} (f : V → V → V) (h : EvAK tl σ H fun ws Hx => ∃ (a b : Addr) (xs ys : List V), ws = [.ref a, .ref b] ∧ xs.length ≤ 40000 ∧ xs.length = ys.length ∧ SqL K Hx a xs ∧ SqL K Hx b ys ∧
      (∀ x y, wipe (((wipe σ vs).set i (some x)).set j (some y)) vs = wipe σ vs) ∧
      (∀ (k : Nat) x y Hz, xs[k]? = some x → ys[k]? = some y → Ex Hx Hz → EvK te (((wipe σ vs).set i (some x)).set j (some y)) Hz fun v Hy => v = f x y ∧ Hy = Hz) ∧ ∀ p, Hx p = none → P (.ref p) (upd Hx p (.lst (List.zipWith f xs ys)))) :
    EvK (tLc (iZip K tl) (gTup K 2 (gCons (gName i) (gCons (gName j) gNil))) tYes te vs) σ H P := fun H1 e Q k =>
  h H1 e _ fun w H2 ⟨Hx, ex, a, b, xs, ys, ev, hn, hxy, hqx, hqy, hw, hs, hd⟩ => ⟨a, b, xs, ys, ev, ex_l ex hqx, ex_l ex hqy, fun p np => by
    have npx : Hx p = none := fresh_back ex np
    refine ⟨fun i m H' => m = xs.length - i ∧ i ≤ xs.length ∧ Ex (upd Hx p (.lst ((List.zipWith f xs ys).take i))) H', ⟨xs.length, rfl, Nat.zero_le _, Ex.updm ex⟩, ?_⟩
    rintro n m H' ⟨rfl, hin, hH⟩
    have qx : SqL K H' a xs := ex_l hH (ex_l (Ex.new npx) hqx)
    have qy : SqL K H' b ys := ex_l hH (ex_l (Ex.new npx) hqy)
    by_cases hlt : n < xs.length
    · have hx : xs[n]? = some xs[n] := List.getElem?_eq_getElem hlt
      have hlt2 : n < ys.length := by omega
      have hy : ys[n]? = some ys[n] := List.getElem?_eq_getElem hlt2
      refine .inr ⟨⟨xs, ys, _, _, qx, qy, hx, hy⟩, fun H'' => Ex (upd Hx p (.lst ((List.zipWith f xs ys).take (n + 1)))) H'', fun H'' p' => ⟨xs.length - (n + 1), by omega, rfl, hlt, p'⟩, fun v H'' yy => ?_⟩
      obtain ⟨T, x', y', rfl, hT, rfl, f1, f2⟩ := yy
      have gx := f1 xs qx
      have gy := f2 ys qy
      have hT2 : (upd Hx p (.lst ((List.zipWith f xs ys).take n))) T = none := fresh_back hH hT
      have ex2 : Ex (upd Hx p (.lst ((List.zipWith f xs ys).take n))) (upd H' T (.tup [x', y'])) := hH.trans (Ex.new hT)
      refine gk_tup2 (K := K) (H := upd H' T (.tup [x', y'])) (st_of upd_same) (gk_name (gk_name (R := fun σ2 H2 => wipe σ2 vs = wipe σ vs ∧ σ2 = ((wipe σ vs).set i (some x')).set j (some y') ∧ H2 = upd H' T (.tup [x', y'])) ⟨hw _ _, rfl, rfl⟩)) _ (Ex.refl _) _ ?_
      rintro σ2 H3 ⟨_, e3, hw2, rfl, rfl⟩
      refine ⟨hw2, ?_⟩
      show te _ H3 _
      refine hs n x' y' (upd Hx p (.lst ((List.zipWith f xs ys).take n))) gx gy (Ex.new npx) H3 (ex2.trans e3) _ ?_
      rintro v H4 ⟨Hy, ey, rfl, rfl⟩
      refine ⟨_, ey p _ upd_same, sz_lt (by rw [List.length_take, List.length_zipWith]; omega), ?_⟩
      have e5 : (List.zipWith f xs ys).take (n + 1) = (List.zipWith f xs ys).take n ++ [f x' y'] := by
        rw [List.take_succ]
        congr 1
        rw [List.getElem?_zipWith, gx, gy]
        rfl
      rw [e5]
      exact Ex.updm (fun c u q => by
        by_cases hc : c = p
        · subst hc
          rw [npx] at q
          cases q
        · exact ey c u (by rw [upd_ne hc]; exact q))
    · have e : n = xs.length := by omega
      subst e
      refine .inl ⟨⟨xs, ys, qx, qy, Or.inl (Nat.le_refl _)⟩, k _ _ ⟨_, hH, ?_⟩⟩
      rw [List.take_of_length_le (by rw [List.length_zipWith]; omega)]
      exact hd p npx⟩
/-! ### more of comprehensions and lists -/
theorem k_lcI {a : Addr} {ns : List Int} {j : Nat} {vs : List Nat} {tl : TE} (g : Int → Int) (h : EvK tl σ H fun w Hx => w = .ref a ∧ SqL K Hx a (ns.map V.int) ∧ ns.length ≤ 40000 ∧ (∀ x, wipe ((wipe σ vs).set j (some x)) vs = wipe σ vs) ∧ (∀ z Hz, z ∈ ns → Ex Hx Hz → EvK te ((wipe σ vs).set j (some (.int z))) Hz fun v Hy => v = .int (g z) ∧ Hy = Hz) ∧ ∀ p, Hx p = none → P (.ref p) (upd Hx p (.lst ((ns.map g).map V.int)))) :
    EvK (tLc (iList K tl) (gName j) tYes te vs) σ H P := k_lcL (a := a) (xs := ns.map V.int) (fun _ v => match v with | .int z => .int (g z) | v => v) (h.imp fun w Hx ⟨h1, h2, h3, h4, h5, h6⟩ => ⟨h1, h2, by rw [List.length_map]; exact h3, h4, fun i x Hz hx ez => by
      rw [List.getElem?_map] at hx
      cases e : ns[i]? with
      | none => rw [e] at hx; cases hx
      | some z =>
        rw [e] at hx
        have ex := Option.some.inj hx
        subst ex
        exact h5 z Hz (List.mem_of_getElem? e) ez, fun p np => by
      have e : (ns.map V.int).mapIdx (fun _ v => match v with | .int z => V.int (g z) | v => v) = (ns.map g).map V.int := by
        apply List.ext_getElem?
        intro i
        rw [List.getElem?_mapIdx, List.getElem?_map, List.getElem?_map, List.getElem?_map]
        cases ns[i]? <;> rfl
      rw [e]
      exact h6 p np⟩)
theorem r_rep {l : Addr} {xs : List V} {n : Nat} (h : H l = some (.lst xs)) (hz : xs.length * n ≤ 100000) (hn : n ≤ 100000) (hp : ∀ p, H p = none → P (.ref p) (upd H p (.lst (List.replicate n xs).flatten))) : RK rRep (.ref l) (.int (n : Int)) H P := fun H1 e Q k =>
  ⟨l, (n : Int), xs, rfl, rfl, e _ _ h, by omega, by omega, by rw [Int.toNat_natCast]; exact sz_of hz, fun p np => by
    rw [Int.toNat_natCast]
    exact k _ _ ⟨_, Ex.updm e, hp p (fresh_back e np)⟩⟩
theorem rep_int (n : Nat) (z : Int) : (List.replicate n [V.int z]).flatten = (List.replicate n z).map V.int := by
  rw [List.flatten_replicate_singleton, List.map_replicate]
theorem k_lstRg (h : EvK ta σ H fun x Hx => ∃ n : Nat, x = .int (n : Int) ∧ n ≤ 100000 ∧ ∀ q, Hx q = none → P (.ref q) (upd Hx q (.lst (((List.range n).map fun (i : Nat) => (i : Int)).map V.int)))) : EvK (tLstRg (tRg1 ta)) σ H P := fun H1 e Q k =>
  h H1 e _ fun x H2 ⟨Hx, ex, n, ev, hn, hp⟩ => ⟨(n : Int), ev, RgOk.of_le (by omega) (by omega) (by omega) (by omega), fun q nq => by
    have e5 : rgV 0 (n : Int) = ((List.range n).map fun (i : Nat) => (i : Int)).map V.int := by
      unfold rgV
      rw [Int.sub_zero, Int.toNat_natCast, List.map_map]
      refine List.map_congr_left fun i _ => ?_
      show V.int ((0 : Int) + (i : Int)) = V.int (i : Int)
      rw [Int.zero_add]
    rw [e5]
    exact k _ _ ⟨_, Ex.updm ex, hp q (fresh_back ex nq)⟩⟩
end
end Px

set_option Elab.async false
set_option linter.all false
set_option maxRecDepth 100000
set_option maxHeartbeats 400000
/-! Pn: texts in the calculus; the words that gifts are written with. -/
namespace Px
open PySem PySem.Spec PyProof.Rows L2 Evl SX
section
variable {K : PySem.W.Frag} {σ : L2.St} {H H' : Hp} {ta tb tc te to tx : TE} {x y z v : V} {P : V → Hp → Prop} {D : Ends} {s s2 w : TS}
theorem k_m1 {r : V → List V → Hp → VK → Prop} (h : EvK to σ H fun x Hx => (∃ a, x = .str a) ∧ EvK te σ Hx fun y Hy => Kc (r x [y]) Hy P) : EvK (tM1 r to te) σ H P := fun H1 e Q k =>
  h H1 e _ fun x H2 ⟨Hx, ex, hs, h2⟩ => ⟨hs, h2 H2 ex _ fun y H3 ⟨Hy, ey, h3⟩ => h3 H3 ey Q k⟩
theorem r_addS {i j : List Nat} (hz : i.length + j.length ≤ 100000) (h : P (.str (S (i ++ j))) H) : RK (fun x y H Q => ∃ i j, x = .str i ∧ y = .str j ∧ i.length + j.length ≤ sizeLine ∧ Q (.str (i ++ j)) H) (.str (S i)) (.str (S j)) H P := fun H1 e Q k =>
  ⟨S i, S j, rfl, rfl, by rw [S_len, S_len]; exact sz_of hz, by rw [S_cat]; exact k _ _ ⟨H, e, h⟩⟩
theorem c_strN {n : Nat} (hz : n.log2 < 1920) (h : P (.str (S (TL.numL n))) H) : CK (fun xs H Q => ∃ i, xs = [.int i] ∧ i.natAbs.log2 < 1920 ∧ Q (.str (toString i)) H) [.int (n : Int)] H P := fun H1 e Q k =>
  ⟨(n : Int), rfl, hz, by
    have e2 : (Str.ofString (toString ((n : Nat) : Int))) = S (TL.numL n) := num_S n
    show Q (.str (Str.ofString (toString ((n : Nat) : Int)))) H1
    rw [e2]
    exact k _ _ ⟨H, e, h⟩⟩
theorem c_strI {i : Int} (h0 : 0 ≤ i) (hz : Bd 1900 i) (h : P (.str (S (TL.numL i.toNat))) H) : CK (fun xs H Q => ∃ i, xs = [.int i] ∧ i.natAbs.log2 < 1920 ∧ Q (.str (toString i)) H) [.int i] H P := by
  have e : i = (i.toNat : Int) := by omega
  have hb : i.toNat < 2 ^ 1900 := by
    unfold Bd at hz
    omega
  rw [e]
  refine c_strN ?_ h
  by_cases c : i.toNat = 0
  · rw [c]
    decide
  · exact Nat.lt_trans ((Nat.log2_lt c).mpr hb) (by decide)
theorem lit_gt : Str.ofString ">" = S [62] := by decide +kernel
theorem lit_col : Str.ofString ":" = S [58] := by decide +kernel
theorem lit_sp : Str.ofString " " = S [32] := by decide +kernel
theorem lit_0 : Str.ofString "0" = S [48] := by decide +kernel
theorem lit_e : Str.ofString "" = S [] := by decide +kernel
theorem r_addL {i j : List Nat} {t : Str} (ht : t = S j) (hz : i.length + j.length ≤ 100000) (h : P (.str (S (i ++ j))) H) : RK (fun x y H Q => ∃ i j, x = .str i ∧ y = .str j ∧ i.length + j.length ≤ sizeLine ∧ Q (.str (i ++ j)) H) (.str (S i)) (.str t) H P := by
  rw [ht]
  exact r_addS hz h
theorem S_dec (a b : List Nat) : decide (S a = S b) = decide (a = b) := by
  by_cases c : a = b
  · subst c
    rw [decide_eq_true rfl, decide_eq_true rfl]
  · rw [decide_eq_false c, decide_eq_false fun h => c (S_inj h)]
theorem r_eqL {i j : List Nat} {t : Str} (ht : t = S j) (h : P (.bl (decide (i = j))) H) : RK rEq (.str (S i)) (.str t) H P := by
  rw [ht]
  refine r_eqT ?_
  rw [S_dec]
  exact h
theorem r_neL {i j : List Nat} {t : Str} (ht : t = S j) (h : P (.bl (!decide (i = j))) H) : RK rNe (.str (S i)) (.str t) H P := by
  rw [ht]
  refine r_neT ?_
  rw [S_dec]
  exact h
def rJoin (K : PySem.W.Frag) : V → List V → Hp → VK → Prop := fun x xs H Q => ∃ a p, ∃ ys : List Str, x = .str a ∧ xs = [.ref p] ∧ (SqL K H p (ys.map V.str) ∨ SqT K H p (ys.map V.str)) ∧
      (ys.map (·.length)).sum + ys.length * a.length ≤ 16777216 ∧ Q (.str (Txt.join a ys)) H
theorem pe_joinK {X : Cx} {o e : Expr} {apos pos : Pos} (ho : PE X o to) (he : PE X e te) (hK : X.K = K := by rfl) (hs : starEach [e] X.env = [(false, eval e X.env)] := by rfl) (hbase : attributeBase o "join" X.env (eval o X.env) = eval o X.env := by rfl) (hline : (apos.endLine == pos.line) = true := by rfl) :
    PE X (.Call (.Attribute o "join" apos) [e] [] pos) (tM1 (rJoin K) to te) := by
  subst hK
  exact pe_join ho he hs hbase hline
theorem m_split {a : List Nat} {c : Nat} {t : Str} (ht : t = S [c]) (hc : c < 256) (hl : a.length ≤ 90000) (hp : ∀ p, H p = none → P (.ref p) (upd H p (.lst (((TL.spl [c] 0 [] a).map S).map V.str)))) :
    Kc ((fun (x : V) (xs : List V) (H : Hp) (Q : VK) => ∃ a b, x = .str a ∧ xs = [.str b] ∧ (b.length == 0) = false ∧ a.length + 2 ≤ sizeLine ∧ rNewStrs (Txt.split a b) H Q) (.str (S a)) [.str t]) H P := fun H1 e Q k => by
  subst ht
  exact ⟨S a, S [c], rfl, rfl, rfl, by rw [S_len]; exact sz_of (n := a.length + 2) (by omega), fun p np => by
    rw [split_S (List.cons_ne_nil _ _) (by simp [hc])]
    exact k _ _ ⟨_, Ex.updm e, hp p (fresh_back e np)⟩⟩
theorem m_part {a : List Nat} {c : Nat} {t : Str} (ht : t = S [c]) (hl : a.length ≤ 100000) (hp : ∀ p, H p = none → P (.ref p) (upd H p (.tup [.str (Txt.partition (S a) (S [c])).1, .str (Txt.partition (S a) (S [c])).2.1, .str (Txt.partition (S a) (S [c])).2.2]))) :
    Kc ((fun (x : V) (xs : List V) (H : Hp) (Q : VK) => ∃ a b, x = .str a ∧ xs = [.str b] ∧ (b.length == 0) = false ∧ a.length ≤ sizeLine ∧
      ∀ p, H p = none → Q (.ref p) (upd H p (.tup [.str (Txt.partition a b).1, .str (Txt.partition a b).2.1, .str (Txt.partition a b).2.2]))) (.str (S a)) [.str t]) H P := fun H1 e Q k => by
  subst ht
  exact ⟨S a, S [c], rfl, rfl, rfl, by rw [S_len]; exact sz_of hl, fun p np => k _ _ ⟨_, Ex.updm e, hp p (fresh_back e np)⟩⟩
theorem m_join {a : List Nat} {p : Addr} {ys : List (List Nat)} {t : Str} (ht : t = S a) (h : SqL K H p ((ys.map S).map V.str)) (hl : (ys.map (·.length)).sum + ys.length * a.length ≤ 16777216) (hp : P (.str (S (TL.joinL a ys))) H) :
    Kc (rJoin K (.str t) [.ref p]) H P := fun H1 e Q k => by
  subst ht
  exact ⟨S a, p, ys.map S, rfl, rfl, .inl (ex_l e h), by rw [lens, S_len, List.length_map]; exact hl, by rw [join_S]; exact k _ _ ⟨H, e, hp⟩⟩
theorem r_ixS {l : List Nat} {i : Int} {c : Nat} (hl : l.length ≤ 100000) (ha : atI l i = some c) (hp : P (.str (S [c])) H) : RK rIxS (.str (S l)) (.int i) H P := fun H1 e Q k =>
  ⟨S l, i, c, rfl, rfl, by rw [S_len]; exact sz_of hl, ha, k _ _ ⟨H, e, hp⟩⟩
theorem r_notInS {l : List Nat} {c : Nat} (hp : P (.bl (!decide (c ∈ l))) H) : RK (fun x y H Q => ∃ (c : Nat) (z : Str), x = .str ⟨#[c]⟩ ∧ y = .str z ∧ Q (.bl (!decide (c ∈ z.cps.toList))) H) (.str (S [c])) (.str (S l)) H P := fun H1 e Q k =>
  ⟨c, S l, rfl, rfl, k _ _ ⟨H, e, hp⟩⟩
theorem c_lenS {l : List Nat} (hl : l.length ≤ 100000) (hp : P (.int (l.length : Int)) H) : CK (fun xs H Q => ∃ z : Str, xs = [.str z] ∧ z.length ≤ sizeLine ∧ Q (.int z.length) H) [.str (S l)] H P := fun H1 e Q k =>
  ⟨S l, rfl, by rw [S_len]; exact sz_of hl, by rw [S_len]; exact k _ _ ⟨H, e, hp⟩⟩
theorem c_intS {l : List Nat} {n : Int} (ht : intText? (S l) = some n) (hl : l.length ≤ 640) (hp : P (.int n) H) : CK (fun xs H Q => ∃ a n, xs = [.str a] ∧ PySem.intText? a = some n ∧ a.length ≤ 640 ∧ Q (.int n) H) [.str (S l)] H P := fun H1 e Q k =>
  ⟨S l, n, rfl, ht, by rw [S_len]; exact hl, k _ _ ⟨H, e, hp⟩⟩
/-- over the signs of a text -/
theorem gs_forS {j : Nat} (h : EvK te σ H fun v Hx => ∃ (l : List Nat) (Pv : Nat → L2.St → Hp → Prop), v = .str (S l) ∧ Pv 0 σ Hx ∧
    (∀ i c σ' H', l[i]? = some c → Pv i σ' H' → Go s { D with nx := Lp Pv (i + 1), ct := Lp Pv (i + 1), bk := w D } (σ'.set j (some (.str (S [c])))) H') ∧ (∀ σ' H', Pv l.length σ' H' → Go w D σ' H')) : Go (tSeq (tFor (iStr te) (gName j) s) w) D σ H := fun H1 e =>
  h H1 e _ fun v H2 ⟨Hx, ex, l, Pv, ev, h0, hs, hd⟩ => ⟨S l, ev, by
    have hsz : (S l).cps.size = l.length := List.size_toArray
    refine ⟨fun i m σ H => m = l.length - i ∧ i ≤ l.length ∧ Lp Pv i σ H, ⟨l.length, rfl, Nat.zero_le _, Hx, ex, h0⟩, ?_⟩
    rintro i m σ' H' ⟨rfl, hi, p⟩
    by_cases hlt : i < l.length
    · refine .inr ⟨by show i < (S l).cps.size; rw [hsz]; exact hlt, Lp Pv (i + 1), fun σ' H' p' => ⟨l.length - (i + 1), by omega, rfl, hlt, p'⟩, fun v H'' y => ?_⟩
      obtain ⟨rfl, c, hc, rfl⟩ := y
      have hc2 : l[i]? = some c := by
        have e2 : (S l).cps[i]? = l[i]? := List.getElem?_toArray
        rw [← e2]
        exact hc
      obtain ⟨Hy, ey, p⟩ := p
      exact hs i c σ' Hy hc2 p _ ey
    · have ei : i = l.length := by omega
      subst ei
      obtain ⟨Hy, ey, p⟩ := p
      exact .inl ⟨by show (S l).cps.size ≤ _; rw [hsz]; exact Nat.le_refl _, hd σ' Hy p _ ey⟩⟩
end
end Px
namespace Pn
open PySem SX TL
/-- a gift that the notes write -/
structure Gd (z : Pg.Gift) : Prop where
  g0 : 0 ≤ z.1
  g1 : z.1 < 100
  t0 : 0 ≤ z.2.1
  t1 : z.2.1 < 100
  ne : z.1 ≠ z.2.1
  d0 : 1 ≤ z.2.2
  d1 : z.2.2 < 10 ^ 61
def ends (z : Pg.Gift) : List Nat := numL z.1.toNat ++ ([62] ++ numL z.2.1.toNat)
def wl (z : Pg.Gift) : List Nat := ends z ++ ([58] ++ numL z.2.2.toNat)
def fig : List Nat := [48, 49, 50, 51, 52, 53, 54, 55, 56, 57]
theorem fig_of {n c : Nat} (h : c ∈ numL n) : c ∈ fig := by
  have r := numL_digits n c h
  have r2 : c = 48 ∨ c = 49 ∨ c = 50 ∨ c = 51 ∨ c = 52 ∨ c = 53 ∨ c = 54 ∨ c = 55 ∨ c = 56 ∨ c = 57 := by omega
  unfold fig
  simpa using r2
theorem head0 : ∀ (n : Nat) (r : List Nat), numL n = 48 :: r → n = 0 := fun n => by
  induction n using Nat.strongRecOn with
  | _ n ih =>
    intro r h
    by_cases c : n < 10
    · rw [numL_lt c] at h
      have := (List.cons.inj h).1
      omega
    · rw [numL_step (by omega)] at h
      cases e : numL (n / 10) with
      | nil => exact absurd e (numL_ne _)
      | cons x l =>
        rw [e] at h
        have h1 := (List.cons.inj h).1
        rw [h1] at e
        have := ih (n / 10) (by omega) l e
        omega
theorem Gd.len {z : Pg.Gift} (h : Gd z) : (numL z.1.toNat).length ≤ 2 ∧ (numL z.2.1.toNat).length ≤ 2 ∧ (numL z.2.2.toNat).length ≤ 61 := by
  refine ⟨numL_len (by decide) ?_, numL_len (by decide) ?_, numL_len (by decide) ?_⟩
  · have := h.g0
    have := h.g1
    omega
  · have := h.t0
    have := h.t1
    omega
  · have h0 := h.d0
    have h1 := h.d1
    have e : ((10 : Int) ^ 61) = ((10 ^ 61 : Nat) : Int) := by decide +kernel
    rw [e] at h1
    omega
theorem Gd.wl_len {z : Pg.Gift} (h : Gd z) : (wl z).length ≤ 67 := by
  obtain ⟨a, b, c⟩ := h.len
  unfold wl ends
  simp only [List.length_append, List.length_cons, List.length_nil]
  omega
theorem wl_free (z : Pg.Gift) : (32 : Nat) ∉ wl z := by
  unfold wl ends
  intro h
  simp only [List.mem_append, List.mem_singleton] at h
  have f : ∀ n, (32 : Nat) ∉ numL n := fun n => numL_free (.inl (by decide))
  rcases h with (h | h | h) | h | h
  · exact f _ h
  · cases h
  · exact f _ h
  · cases h
  · exact f _ h
theorem ends_free (z : Pg.Gift) : (58 : Nat) ∉ ends z := by
  unfold ends
  intro h
  simp only [List.mem_append, List.mem_singleton] at h
  have f : ∀ n, (58 : Nat) ∉ numL n := fun n => numL_free (.inr (by decide))
  rcases h with h | h | h
  · exact f _ h
  · cases h
  · exact f _ h
theorem part1 (z : Pg.Gift) : Txt.partition (S (wl z)) (S [58]) = (S (ends z), S [58], S (numL z.2.2.toNat)) := partition_some (List.cons_ne_nil _ _) (par_head _ (ends_free z))
theorem part2 (z : Pg.Gift) : Txt.partition (S (ends z)) (S [62]) = (S (numL z.1.toNat), S [62], S (numL z.2.1.toNat)) := partition_some (List.cons_ne_nil _ _) (par_head (c := 62) (sep := []) _ (numL_free (.inr (by decide))))
theorem wl_ne (z : Pg.Gift) : wl z ≠ [] := by
  unfold wl
  simp
theorem join_ne {Gs : List Pg.Gift} (h : Gs ≠ []) : joinL [32] (Gs.map wl) ≠ [] := by
  cases Gs with
  | nil => exact absurd rfl h
  | cons z r =>
    cases r with
    | nil => exact wl_ne z
    | cons y r =>
      show wl z ++ _ ≠ []
      intro e
      exact wl_ne z (List.append_eq_nil_iff.mp e).1
theorem split_join {Gs : List Pg.Gift} (h : Gs ≠ []) : spl [32] 0 [] (joinL [32] (Gs.map wl)) = Gs.map wl := SX.spl_join (by
  intro e
  exact h (List.map_eq_nil_iff.mp e)) (fun p hp => by
  obtain ⟨z, _, rfl⟩ := List.mem_map.mp hp
  exact wl_free z)
theorem sum_len : ∀ {Gs : List Pg.Gift}, (∀ z ∈ Gs, Gd z) → ((Gs.map wl).map (·.length)).sum ≤ 67 * Gs.length
  | [], _ => Nat.zero_le _
  | z :: r, h => by
    have h1 := (h z List.mem_cons_self).wl_len
    have h2 := sum_len fun y hy => h y (List.mem_cons_of_mem _ hy)
    rw [List.map_cons, List.map_cons, List.sum_cons, List.length_cons]
    omega
theorem join_len : ∀ {Gs : List Pg.Gift}, (∀ z ∈ Gs, Gd z) → (joinL [32] (Gs.map wl)).length ≤ 68 * Gs.length
  | [], _ => Nat.zero_le _
  | [z], h => by
    have h1 := (h z List.mem_cons_self).wl_len
    show (wl z).length ≤ 68
    omega
  | z :: y :: r, h => by
    have h1 := (h z List.mem_cons_self).wl_len
    have h2 := join_len (Gs := y :: r) fun u hu => h u (List.mem_cons_of_mem _ hu)
    show (wl z ++ ([32] ++ joinL [32] ((y :: r).map wl))).length ≤ _
    rw [List.length_append, List.length_append, List.length_cons (a := z)]
    show (wl z).length + (1 + _) ≤ _
    omega
theorem int_numL (n : Nat) (h : (numL n).length ≤ 4300) : intText? (S (numL n)) = some (n : Int) := by
  have e := int_num (n := n) h
  rw [num_S] at e
  exact e
end Pn

set_option Elab.async false
set_option linter.all false
set_option maxRecDepth 100000
set_option maxHeartbeats 4000000
/-! Pe: except clauses in a row, some with a name; Base.__init__(self, ..) of an exception class of the program. -/
namespace Px
open PySem PySem.Spec PyProof.Rows L2 Evl
/-- what the clauses make of an exception; an end without one of them is not served -/
def wRow (K : PySem.W.Frag) (D : Ends) : List (Value × Option Nat × (Addr → Value → Option Addr → TS)) → WX
  | [] => fun _ _ _ _ => False
  | (c, none, ts) :: l => fun cls d σ H => ∃ b, PySem.W.exmOne K cls c = some b ∧ (b = true → ∀ a, H a = none → ts a cls d D σ H) ∧ (b = false → wRow K D l cls d σ H)
  | (c, some i, ts) :: l => fun cls d σ H => ∃ b, PySem.W.exmOne K cls c = some b ∧ (b = true → ∀ a, H a = none → ts a cls d { nx := fun σ' H' => D.nx (σ'.set i none) H', rt := D.rt, bk := fun σ' H' => D.bk (σ'.set i none) H', ct := fun σ' H' => D.ct (σ'.set i none) H' } (σ.set i (some (.ref a))) H) ∧ (b = false → wRow K D l cls d σ H)
inductive RowOk (X : Cx) : List ExceptHandler → List (Value × Option Nat × (Addr → Value → Option Addr → TS)) → Prop
  | nil : RowOk X [] []
  | one {x : Str} {c : Value} {ts : Addr → Value → Option Addr → TS} {b₀ : Stmt} {suite : List Stmt} {np pos' : Pos} {hds : List ExceptHandler} {l : List (Value × Option Nat × (Addr → Value → Option Addr → TS))} (hc : Names X x c)
      (hsu : ∀ (a : Addr) (oe : Obj) (cls : Value) (d : Option Addr) (pn : List (Addr × Obj)), Zc cls d oe → (∃ vs, oe.data = .fields vs) → PSs (X.suite a ((a, oe) :: pn)) (b₀ :: suite) (ts a cls d)) (r : RowOk X hds l) :
      RowOk X (.ExceptHandler (some (.Name x np)) none (b₀ :: suite) pos' :: hds) ((c, none, ts) :: l)
  | nam {x n : Str} {i : Nat} {c : Value} {ts : Addr → Value → Option Addr → TS} {b₀ : Stmt} {suite : List Stmt} {np pos' : Pos} {hds : List ExceptHandler} {l : List (Value × Option Nat × (Addr → Value → Option Addr → TS))} (hc : Names X x c) (nd : X.N.Nodup) (hi : X.N[i]? = some n) (hln : X.env.kindOf n = some .local)
      (hsu : ∀ (a : Addr) (oe : Obj) (cls : Value) (d : Option Addr) (pn : List (Addr × Obj)), Zc cls d oe → (∃ vs, oe.data = .fields vs) → PSs (X.suite a ((a, oe) :: pn)) (b₀ :: suite) (ts a cls d)) (r : RowOk X hds l) :
      RowOk X (.ExceptHandler (some (.Name x np)) (some n) (b₀ :: suite) pos' :: hds) ((c, some i, ts) :: l)
theorem looks_type {M : Model} {h : Heap} {a : Addr} {o : Obj} (e : h.get? a = some o) : PySem.W.Looks M h (typeOf (.ref a)) o.cls := by
  exact (PySem.W.Looks.ld e).andThen PySem.W.Looks.now
theorem ld_name {X : Cx} {E : Value → Shared → Prop} {pins : List (Addr × Obj)} {s : Shared} {σ : L2.St} {H : Hp} {x : Str} {c : Value} {pos : Pos} {Q : Value → Shared → Prop} (I : Inv X pins σ H s) (hc : Names X x c) (q : Q c s) : wpAny (model X.prog X.w) X.A (eval (.Name x pos) X.env) Q E s := by
  obtain ⟨hg, hd, h | ⟨h1, h2, h3⟩⟩ := hc
  · exact ld_glob I hg h q hd
  · exact ld_blt I hg h1 h2 q h3 hd
section
variable {X : Cx}
/-- an exception that has landed, the clauses still to be asked -/
structure Down (X : Cx) (pins : List (Addr × Obj)) (σ : L2.St) (H : Hp) (a : Addr) (cls : Value) (d : Option Addr) (B : Heap) (sI s : Shared) : Prop where
  inv : Inv X pins σ H sI
  kB : ∀ (b : Addr) (o : Obj), sI.heap.get? b = some o → ¬ b ∈ frs X.stack → B.get? b = some o
  up : sI.heap.UpToSlots s.heap
  fly : PySem.HandSPX.FlyingZ B (X.env :: X.outer) a (Zc cls d) s.heap
  na : H a = none
  os : s.os = sI.os
  bare : AllBare s.gens
variable {pins : List (Addr × Obj)} {σ : L2.St} {H : Hp} {a : Addr} {cls : Value} {d : Option Addr} {B : Heap} {sI s : Shared}
theorem Down.here (D : Down X pins σ H a cls d B sI s) : Inv X pins σ H s := D.inv.landed D.kB D.fly.1 D.up D.os D.bare
theorem Down.next (D : Down X pins σ H a cls d B sI s) {h' : Heap} (f : PySem.HandSPX.FlyingZ B (X.env :: X.outer) a (Zc cls d) h') (u : s.heap.UpToSlots h') : Down X pins σ H a cls d B sI { s with heap := h' } := ⟨D.inv, D.kB, D.up.trans u, f, D.na, D.os, D.bare⟩
theorem Down.suite (hf : X.env.frame = some X.env.locals) (D : Down X pins σ H a cls d B sI s) : ∃ (oe : Obj) (vs : Array Value), s.heap.get? a = some oe ∧ Zc cls d oe ∧ oe.data = .fields vs ∧ Inv (X.suite a ((a, oe) :: (X.pn ++ pins))) [] σ H s := by
  obtain ⟨oe, vs, h1, h2, h3⟩ := D.fly.there
  have fm := fun {b : Addr} (hb : b ∈ (X.env :: X.outer).filterMap (·.frame)) => D.fly.2.2.1.mem hb
  refine ⟨oe, vs, h1, h2, h3, D.here.suite h1 h3 D.na (fun e => ?_) (fun e => ?_)⟩
  · subst e
    obtain ⟨_, o, e1, e2⟩ := fm (List.mem_filterMap.mpr ⟨X.env, List.mem_cons_self, hf⟩)
    rw [h1] at e1
    cases e1
    exact e2 _ h3
  · obtain ⟨env, e1, e2⟩ := List.mem_filterMap.mp e
    obtain ⟨_, o, e3, e4⟩ := fm (List.mem_filterMap.mpr ⟨env, List.mem_cons_of_mem _ e1, e2⟩)
    rw [h1] at e3
    cases e3
    exact e4 _ h3
/-- a clause's test -/
theorem Down.test (hf : X.env.frame = some X.env.locals) (D : Down X pins σ H a cls d B sI s) {x : Str} {c : Value} {np pos : Pos} {b : Bool} {R : Result → Shared → Prop} (hc : Names X x c) (he : PySem.W.exmOne X.K cls c = some b) (hR : R (.ok (if b = true then .brk else .next)) s) :
    codeAny (model X.prog X.w) (X.A.mark (some (.ref a))) (.handlers (.ref a) [.ExceptHandler (some (.Name x np)) none [] pos] X.env) R s := by
  obtain ⟨oe, vs, h1, h2, h3, I⟩ := D.suite hf
  refine codeAny_handlers_test ?_
  refine ld_name (X := X.suite a ((a, oe) :: (X.pn ++ pins))) I hc ?_
  refine (PySem.W.exm_one (cls := cls) D.here.kIn ?_ he).here hR
  rw [← h2.1]
  exact looks_type h1
theorem SP_unsuite {q : Addr × Obj} {D : Ends} {f : Flow} {s' : Shared} (ok : X.Ok) (h : SP (X.suite a (q :: (X.pn ++ pins))) [] D f s') : SP X pins D f s' := by
  cases f with
  | next => obtain ⟨σ', H', I, q⟩ := h; exact ⟨σ', H', I.unsuite ok, q⟩
  | brk => obtain ⟨σ', H', I, q⟩ := h; exact ⟨σ', H', I.unsuite ok, q⟩
  | cont => obtain ⟨σ', H', I, q⟩ := h; exact ⟨σ', H', I.unsuite ok, q⟩
  | ret u => obtain ⟨v, σ', H', I, r, q⟩ := h; exact ⟨v, σ', H', I.unsuite ok, r, q⟩
theorem row_run (hf : X.env.frame = some X.env.locals) {D : Ends} : ∀ {hds : List ExceptHandler} {l : List (Value × Option Nat × (Addr → Value → Option Addr → TS))}, RowOk X hds l → ∀ {s : Shared}, Down X pins σ H a cls d B sI s → wRow X.K D l cls d σ H →
    wpAny (model X.prog X.w) X.A (handleBy (.ref a) X.env hds) (SP X pins D) X.xe s := by
  intro hds l r
  induction r with
  | nil => exact fun _ w => w.elim
  | @one x c ts b₀ suite np pos' hds l hc hsu r ih =>
    rintro s dn ⟨b, he, hT, hF⟩
    refine wpAny_handleBy_cons (dn.test hf hc he ?_) (fun e => by cases e)
    cases b with
    | false => exact ih dn (hF rfl)
    | true =>
      refine codeAny_handlers_suite (PySem.HandSPX.lands_againZ dn.fly fun h' f u => ?_)
      have dn2 := dn.next f u
      obtain ⟨oe, vs, h1, h2, h3, I⟩ := dn2.suite hf
      refine wpAny_mono ((hsu a oe cls d (X.pn ++ pins) h2 ⟨_, h3⟩).run [] _ σ H D I (hT rfl a dn.na)) (fun f s' q => SP_unsuite dn.inv.ok q) (fun _ _ z => z.elim)
  | @nam x n i c ts b₀ suite np pos' hds l hc nd hi hln hsu r ih =>
    rintro s dn ⟨b, he, hT, hF⟩
    refine wpAny_handleBy_cons (dn.test hf hc he ?_) (fun e => by cases e)
    cases b with
    | false => exact ih dn (hF rfl)
    | true =>
      refine codeAny_handlers_suite_as (PySem.HandSPX.lands_againZ dn.fly fun h' f u => ?_)
      have dn2 := dn.next f u
      obtain ⟨oe, vs, h1, h2, h3, I⟩ := dn2.suite hf
      refine store_ok (X := X.suite a ((a, oe) :: (X.pn ++ pins))) (v := .ref a) I nd hi (.inl hln) rfl (fun s2 I2 => ?_) (.inr hln)
      refine wpAny_mono ((hsu a oe cls d (X.pn ++ pins) h2 ⟨_, h3⟩).run [] _ _ H _ I2 (hT rfl a dn.na)) (fun f s' q => ?_) (fun _ _ z => z.elim)
      have q2 := SP_unsuite dn.inv.ok q
      cases f with
      | next => obtain ⟨σ', H', I, q⟩ := q2; exact gone_ok I nd hi hln fun s3 I3 => ⟨_, _, I3, q⟩
      | brk => obtain ⟨σ', H', I, q⟩ := q2; exact gone_ok I nd hi hln fun s3 I3 => ⟨_, _, I3, q⟩
      | cont => obtain ⟨σ', H', I, q⟩ := q2; exact gone_ok I nd hi hln fun s3 I3 => ⟨_, _, I3, q⟩
      | ret u => obtain ⟨v, σ', H', I, r, q⟩ := q2; exact gone_ok I nd hi hln fun s3 I3 => ⟨v, _, _, I3, r, q⟩
theorem ps_tryRow0 {body : List Stmt} {h₀ : ExceptHandler} {hds : List ExceptHandler} {l : List (Value × Option Nat × (Addr → Value → Option Addr → TS))} {pos : Pos} {tb : WX → TS} (hs : X.stack = X.env :: X.outer) (hf : X.env.frame = some X.env.locals)
    (hb : ∀ (W : WX) (pn : List (Addr × Obj)) (xe : Value → Shared → Prop), Takes (X.tr pn xe) W → PassesOwn (model X.prog X.w) X.A X.env xe → PSs (X.tr pn xe) body (tb W)) (hh : RowOk X (h₀ :: hds) l) :
    PS X (.Try body (h₀ :: hds) [] [] pos) (fun D σ H => tb (wRow X.K D l) D σ H) := by
  refine ⟨fun pins s σ H D I h => ?_⟩
  refine wpAny_Try_except ?_
  have ok := I.ok
  refine wpAny_mono ((hb (wRow X.K D l) (X.pn ++ pins) (fun e s₁ => wpAny (model X.prog X.w) X.A (noteFrame e X.env) (fun _ s₂ => wpAny (model X.prog X.w) X.A (setFlight e none) (fun _ s₃ => wpAny (model X.prog X.w) X.A (handleBy e X.env (h₀ :: hds)) (SP X pins D) X.xe s₃) X.xe s₂) X.xe s₁) ?tk ?po).run [] s σ H D (I.toTry _) h) (fun f s' q => ?_) (fun _ _ z => z)
  case tk =>
    rintro u s' ⟨a, B, sI, pins', σ', H', cls, d, rfl, I1, kB, up, sky, na, eos, bare, w⟩
    have I2 : Inv X pins σ' H' sI := I1.ofTry ok
    rw [show (X.tr (X.pn ++ pins) _).stack = X.env :: X.outer from hs] at sky
    refine Sky.land Zc.steady (ok.frames.trans (by rw [hs])) hf sky fun h' fly up2 => ?_
    exact row_run hf hh ⟨I2, kB, up.trans up2, fly, na, eos, bare⟩ w
  case po =>
    exact PassesOwn.looking
  · cases f with
    | next => obtain ⟨σ', H', I', q⟩ := q; exact wpAny_execs_nil ⟨σ', H', I'.ofTry ok, q⟩
    | brk => obtain ⟨σ', H', I', q⟩ := q; exact ⟨σ', H', I'.ofTry ok, q⟩
    | cont => obtain ⟨σ', H', I', q⟩ := q; exact ⟨σ', H', I'.ofTry ok, q⟩
    | ret u => obtain ⟨v, σ', H', I', r, q⟩ := q; exact ⟨v, σ', H', I'.ofTry ok, r, q⟩
theorem ps_tryRow {K : PySem.W.Frag} {body : List Stmt} {h₀ : ExceptHandler} {hds : List ExceptHandler} {l : List (Value × Option Nat × (Addr → Value → Option Addr → TS))} {pos : Pos} {tb : WX → TS} (hs : X.stack = X.env :: X.outer) (hf : X.env.frame = some X.env.locals)
    (hb : ∀ (W : WX) (pn : List (Addr × Obj)) (xe : Value → Shared → Prop), Takes (X.tr pn xe) W → PassesOwn (model X.prog X.w) X.A X.env xe → PSs (X.tr pn xe) body (tb W)) (hh : RowOk X (h₀ :: hds) l) (hK : X.K = K := by rfl) :
    PS X (.Try body (h₀ :: hds) [] [] pos) (tTry tb (fun D => wRow K D l)) := by
  subst hK
  exact ps_tryRow0 hs hf hb hh
end
section
variable {K : PySem.W.Frag} {σ : L2.St} {H : Hp} {D : Ends}
theorem kr_yes {c : Value} {ts : Addr → Value → Option Addr → TS} {l : List (Value × Option Nat × (Addr → Value → Option Addr → TS))} {cls : Value} {d : Option Addr} (he : PySem.W.exmOne K cls c = some true)
    (h : ∀ a, H a = none → Go (ts a cls d) D σ H) : KE (WE (wRow K D ((c, none, ts) :: l)) σ) cls d H := fun H1 e => ⟨true, he, fun _ a na => h a (fresh_back e na) H1 e, fun q => Bool.noConfusion q⟩
theorem kr_no {c : Value} {o : Option Nat} {ts : Addr → Value → Option Addr → TS} {l : List (Value × Option Nat × (Addr → Value → Option Addr → TS))} {cls : Value} {d : Option Addr} (he : PySem.W.exmOne K cls c = some false)
    (h : KE (WE (wRow K D l) σ) cls d H) : KE (WE (wRow K D ((c, o, ts) :: l)) σ) cls d H := fun H1 e => by
  cases o with
  | none => exact ⟨false, he, fun q => Bool.noConfusion q, fun _ => h H1 e⟩
  | some i => exact ⟨false, he, fun q => Bool.noConfusion q, fun _ => h H1 e⟩
theorem kr_as {c : Value} {i : Nat} {ts : Addr → Value → Option Addr → TS} {l : List (Value × Option Nat × (Addr → Value → Option Addr → TS))} {cls : Value} {d : Option Addr} (he : PySem.W.exmOne K cls c = some true)
    (h : ∀ a, H a = none → Go (ts a cls d) { nx := fun σ' H' => D.nx (σ'.set i none) H', rt := D.rt, bk := fun σ' H' => D.bk (σ'.set i none) H', ct := fun σ' H' => D.ct (σ'.set i none) H' } (σ.set i (some (.ref a))) H) : KE (WE (wRow K D ((c, some i, ts) :: l)) σ) cls d H := fun H1 e => ⟨true, he, fun _ a na => h a (fresh_back e na) H1 e, fun q => Bool.noConfusion q⟩
/-- isinstance(e, c), e the exception in hand, with a dict of its own -/
def rIsED (K : PySem.W.Frag) (C a dd : Addr) : List V → Hp → VK → Prop := fun xs H Q => ∃ (c : V) (cv : Value) (b : Bool) (fs : List (Str × V)), xs = [.ref a, c] ∧ (∀ u, RelV c u → u = cv) ∧ PySem.W.kitOne K (.ref C) cv = some b ∧ H dd = some (.xd fs) ∧ Q (.bl b) H
theorem bIsED {X : Cx} {a C dd : Addr} {oe : Obj} {pn : List (Addr × Obj)} (CE : ExcC K C) (hz : Zc (.ref C) (some dd) oe) (hf : ∃ vs, oe.data = .fields vs) (cl : (PySem.W.clsIn K C).isSome = true) (h : X.K = K := by rfl) : CallR (X.suite a ((a, oe) :: pn)) (.builtin "isinstance") (rIsED K C a dd) := by
  subst h
  rintro pins s σ H xs us Q I r ⟨c, cv, b, fs, rfl, hc, hk, hd, q⟩
  obtain ⟨u1, u2, rfl, r1, r2⟩ : ∃ u1 u2, us = [u1, u2] ∧ RelV (.ref a) u1 ∧ RelV c u2 := by
    cases r with
    | cons h1 r => cases r with
      | cons h2 r => cases r with
        | nil => exact ⟨_, _, rfl, h1, h2⟩
  obtain rfl : u1 = Value.ref a := r1
  obtain rfl := hc u2 r2
  obtain ⟨mA, ⟨od, es, ep, ho, _⟩, _⟩ : ∃ mA, s.heap.Ns1 dd mA ∧ ∀ (f : Str), RelO (List.lookup f fs) (mA f) := I.hok dd (.xd fs) hd
  have ha : s.heap.get? a = some oe := (I.pin (a, oe) (List.mem_append_left _ List.mem_cons_self)).1
  obtain ⟨vs, hv⟩ := hf
  have IA : PySem.W.InstAt s.heap a oe C (some od) := ⟨ha, hz.1, by unfold PySem.W.notCls; rw [hv], by rw [hz.2]; exact ho⟩
  refine PySem.W.kia_one (H := fun h => PySem.W.InstAt h a oe C (some od)) (PySem.W.kitx_exc cl CE.hg CE.hk CE.hs CE.ha CE.hn CE.ht CE.hm) I.kIn IA hk (fun z => by cases z) fun tk => ⟨.bl b, H, I.tok tk, ⟨rfl, q⟩⟩
theorem c_isED {C a dd : Addr} {n : String} {b : Bool} {H : Hp} {P : V → Hp → Prop} {fs : List (Str × V)} (hk : PySem.W.kitOne K (.ref C) (.type n) = some b) (hd : H dd = some (.xd fs)) (hp : P (.bl b) H) : CK (rIsED K C a dd) [.ref a, .ty n] H P := fun H1 e Q k => ⟨.ty n, .type n, b, fs, rfl, fun u r => r, hk, e _ _ hd, k _ _ ⟨H, e, hp⟩⟩
/-- e.f, e the exception -/
theorem k_xf {a C dd : Addr} {fs : List (Str × V)} {f : Str} {te : TE} {v : V} {P : V → Hp → Prop} (h : EvK te σ H fun x Hx => x = .ref a ∧ Hx dd = some (.xd fs) ∧ fs.lookup f = some v ∧ P v Hx) : EvK (tXf a (.ref C) (some dd) C f te) σ H P := fun H1 e Q k =>
  h H1 e _ fun x H2 ⟨Hx, ex, e1, e2, e3, e4⟩ => ⟨e1, rfl, dd, fs, v, rfl, ex _ _ e2, e3, k _ _ ⟨Hx, ex, e4⟩⟩
/-- Base.__init__(self, ..), Base a class of the program that has the built-in one's -/
theorem pe_cinit {X : Cx} {x : Str} {D : Addr} {mc : Value} {e : Expr} {es : List Expr} {ta : TA} {p1 p2 pos : Pos} {pl : PySem.Sem Bool} (hg : Gl X x) (hm : X.mg x = some (.ref D)) (rd : PySem.W.readsIn X.K D mc = true) (ga : PySem.W.specialIn X.K (.ref D) "__getattribute__" = some (some (.builtin "type.__getattribute__")))
    (vV : PySem.W.findCls X.K (.ref D) mc "__init__" = some (.val (.builtin "ValueError.__init__"))) (he : PA X (e :: es) ta) (hK : X.K = K := by rfl) (hd : (x == ("__debug__" : Str)) = false := by rfl)
    (hq : eval (.Call (.Attribute (.Name x p1) "__init__" p2) (e :: es) [] pos) X.env = (do
      let ov ← eval (.Name x p1) X.env
      standAt p2.atName
      let (f, first) ← holding [ov] (getMethod ov "__init__" pl)
      callWith pos f first (backTo pos (starEach (e :: es) X.env)) (backToKw pos (keywordEach [] X.env))) := by rfl)
    (hs : starEach (e :: es) X.env = (false, eval e X.env) :: starEach es X.env := by rfl) (hs2 : (backTo pos (starEach es X.env)).any (·.1) = false := by rfl) :
    PE X (.Call (.Attribute (.Name x p1) "__init__" p2) (e :: es) [] pos) (tVeI K ta) := by
  subst hK
  refine ⟨fun pins s σ H Q I h => ?_⟩
  refine PySem.W.methodCall_KW (pl := pl) (ld_glob I hg hm ?_ hd) hq
  refine PySem.W.method_cls I.kIn ga (PySem.W.cls_value I.kIn rd vV rfl ?_)
  refine PyProof.Rows.callWith_builtin1 (thn (he.run pos pins _ σ H _ (I.tok _) h) fun us s1 q1 => ?_) hs hs2
  obtain ⟨vs, H1, I1, r1, a, C, ws, rfl, hl, T, ea, q⟩ := q1
  cases r1 with
  | cons h1 r1 =>
    obtain rfl : _ = Value.ref a := h1
    refine oinit_ok T I1 ea ?_ fun s' I' => ⟨.non, H1, I', rfl, q⟩
    rw [← r1.length]
    exact Nat.le_trans hl (by decide)
theorem k_vei {ta : TA} {P : V → Hp → Prop} (h : EvAK ta σ H fun vs Hx => ∃ (a C : Addr) (ws : List V), vs = .ref a :: ws ∧ ws.length ≤ 1000 ∧ OexC K C ∧ Hx a = some (exo a C none) ∧ P .non Hx) : EvK (tVeI K ta) σ H P := fun H1 e Q k =>
  h H1 e _ fun vs H2 ⟨Hx, ex, a, C, ws, e1, e2, e3, e4, e5⟩ => ⟨a, C, ws, e1, e2, e3, ex _ _ e4, k _ _ ⟨Hx, ex, e5⟩⟩
/-- self.f = v, the first of an exception's own fields, the last statement -/
theorem g1_ost {f : Str} {te to : TE} (h : EvK te σ H fun y Hy => EvK to σ Hy fun x Hx => ∃ (a C : Addr), x = .ref a ∧ OexC K C ∧ PySem.W.findIn K (.ref C) f = some none ∧ Hx a = some (exo a C none) ∧ ∀ Hr, Ex Hx Hr → ∀ dx, Hr dx = none → dx ≠ a → D.nx σ (upd (upd Hr dx (exd dx [(f, y)])) a (exo a C (some dx)))) : Go (tOst K f to te) D σ H := fun H1 e =>
  h H1 e _ fun y H2 ⟨Hy, ey, h2⟩ => h2 H2 ey _ fun x H3 ⟨Hx, ex, a, C, e1, e2, e3, e4, e5⟩ => ⟨a, C, e1, e2, e3, .inl ⟨ex _ _ e4, fun dx nd ne => e5 H3 ex dx nd ne⟩⟩
/-- an exception's own __init__ that stores one field -/
def spIni (K : PySem.W.Frag) (f : Str) : Sp := fun vs H Q _ => ∃ (a C : Addr) (v : V), vs = [.ref a, v] ∧ OexC K C ∧ PySem.W.findIn K (.ref C) f = some none ∧ H a = some (exo a C none) ∧ ∀ d, H d = none → d ≠ a → ∀ H2, Ex (upd (upd H d (exd d [(f, v)])) a (exo a C (some d))) H2 → Q .non H2
/-- raise C(v), C with such an __init__ -/
theorem g_raiseO {C : Addr} {f : Str} {ta : TA} {E : XK} (T : OexC K C) (hno : PySem.W.findIn K (.ref C) f = some none) (h : EvAK ta σ H fun vs Hx => ∃ v, vs = [v] ∧ ∀ d H', Ex Hx H' → H' d = some (.xd [(f, v)]) → E (.ref C) (some d) H') :
    Go (fun _ σ H => tMkO C (spIni K f) [] ta σ H fun cls d H' => E cls d H') D σ H := fun H1 e => h H1 e _ fun vs H2 ⟨Hx, ex, v, ev, k⟩ => by
  subst ev
  refine ⟨by show 1 ≤ 1000; decide, fun a na => ⟨a, C, v, rfl, T, hno, upd_same, fun d nd nda H3 e3 => ⟨rfl, d, [(f, v)], e3 _ _ upd_same, e3 _ _ (by rw [upd_ne nda]; exact upd_same), ?_, ?_⟩⟩⟩
  · rw [upd_ne nda] at nd
    exact nd
  · refine k d _ (fun b o hb => ?_) upd_same
    have hb2 := ex b o hb
    have nba : b ≠ a := fun z => by subst z; rw [na] at hb2; cases hb2
    rw [upd_ne nda] at nd
    have nbd : b ≠ d := fun z => by subst z; rw [nd] at hb2; cases hb2
    rw [upd_ne nbd, del_ne nba]
    exact e3 b o (by rw [upd_ne nba, upd_ne nbd, upd_ne nba]; exact hb2)
/-- a suite that is only asked for exceptions of the class at C that have a dict -/
def tsG (C : Addr) (ts : Addr → Addr → TS) : Addr → Value → Option Addr → TS := fun a cls d Dn σ H => ∃ dd, cls = .ref C ∧ d = some dd ∧ ts a dd Dn σ H
theorem suiteG {X : Cx} {C : Addr} {sts : List Stmt} {ts : Addr → Addr → TS} (h : ∀ (a : Addr) (oe : Obj) (dd : Addr) (pn : List (Addr × Obj)), Zc (.ref C) (some dd) oe → (∃ vs, oe.data = .fields vs) → PSs (X.suite a ((a, oe) :: pn)) sts (ts a dd)) :
    ∀ (a : Addr) (oe : Obj) (cls : Value) (d : Option Addr) (pn : List (Addr × Obj)), Zc cls d oe → (∃ vs, oe.data = .fields vs) → PSs (X.suite a ((a, oe) :: pn)) sts (tsG C ts a cls d) := fun a oe cls d pn hz hf =>
  ⟨fun pins s σ H Dn I hh => by
    obtain ⟨dd, e1, e2, h2⟩ := hh
    subst e1 e2
    exact (h a oe dd pn hz hf).run pins s σ H Dn I h2⟩
theorem g_tsG {C a dd : Addr} {ts : Addr → Addr → TS} (h : Go (ts a dd) D σ H) : Go (tsG C ts a (.ref C) (some dd)) D σ H := fun H1 e => ⟨dd, rfl, rfl, h H1 e⟩
/-- l.index(v), whole numbers -/
theorem first_at : ∀ {ns : List Int} {v : Int}, v ∈ ns → ∃ j, ns[j]? = some v ∧ ∀ (m : Nat) (z : Int), m < j → ns[m]? = some z → z ≠ v
  | [], _, h => by cases h
  | n :: ns, v, h => by
    by_cases c : n = v
    · subst c
      exact ⟨0, rfl, fun m z hm => absurd hm (Nat.not_lt_zero m)⟩
    · obtain ⟨j, h1, h2⟩ := first_at (List.mem_of_ne_of_mem (Ne.symm c) h)
      refine ⟨j + 1, h1, fun m z hm hz => ?_⟩
      cases m with
      | zero =>
        obtain rfl : n = z := Option.some.inj hz
        exact c
      | succ m => exact h2 m z (by omega) hz
theorem m_index {a : Addr} {ns : List Int} {v : Int} {P : V → Hp → Prop} (h : SqL K H a (ns.map V.int)) (hv : v ∈ ns) (hp : ∀ j : Nat, j < ns.length → P (.int (j : Int)) H) : MK (rIndex K) (.ref a) [.int v] H P := fun H1 e Q k => by
  obtain ⟨j, h1, h2⟩ := first_at hv
  refine ⟨a, ns.map V.int, .int v, j, .int v, rfl, rfl, ex_l e h, rfl, ?_, by rw [List.getElem?_map, h1]; rfl, ?_, fun m z' hm hz => ?_, k _ _ ⟨H, e, hp j (List.getElem?_eq_some_iff.mp h1).1⟩⟩
  · rw [List.all_map]
    exact List.all_eq_true.mpr fun _ _ => rfl
  · show decide (v = v) = true
    exact decide_eq_true rfl
  · rw [List.getElem?_map] at hz
    cases hx : ns[m]? with
    | none => rw [hx] at hz; cases hz
    | some x =>
      rw [hx] at hz
      obtain rfl : V.int x = z' := Option.some.inj hz
      show decide (x = v) = false
      exact decide_eq_false (h2 m x hm hx)
end
end Px

set_option Elab.async false
set_option linter.all false
set_option maxRecDepth 100000
set_option maxHeartbeats 4000000
/-! Pk: a list comprehension that lets exceptions out; an exception kept in a local behind its suite. -/
namespace Px
open PySem PySem.Spec PyProof.Rows L2 Evl
theorem noteFrame_eq {e : Value} {a b : Env} (h : a.frame = b.frame) : noteFrame e a = noteFrame e b := by
  unfold noteFrame PySem.frameOf
  rw [h]
theorem funFrames_less {h h' B B' : Heap} (k : ∀ L, B.get? L = none → h'.get? L = h.get? L ∧ B'.get? L = none) : ∀ {l : List Env}, h.FunFrames B l → h'.FunFrames B' l
  | [], _ => trivial
  | e :: l, x => by
    obtain ⟨h1, ⟨L, o, e1, e2, e3, e4⟩, h3⟩ := x
    exact ⟨h1, ⟨L, o, e1, (k L e2).2, by rw [(k L e2).1]; exact e3, e4⟩, funFrames_less k h3⟩
section
variable {X : Cx}
/-- an exception that has come out of a block of the frame's own, behind its clearing away (the block's own names at C) -/
theorem out_of_block {W : WX} {pins : List (Addr × Obj)} {σ : L2.St} {H : Hp} {s s' : Shared} {Wx : XK} {u : Value} {C : Addr} {cenv : Env} {R : Result → Shared → Prop} {Qp : Value → Shared → Prop} {m0 : Str → Option Value} (hs : X.stack = X.env :: X.outer) (hf : X.env.frame = some X.env.locals) (tk : Takes X W)
    (I : Inv X pins σ H s) (hC : H C = none) (hN : s.heap.Ns C m0) (hc1 : C ≠ X.env.locals) (hc2 : X.s_0.heap.objs.size ≤ C) (hc3 : ∀ (x : Str) (c : Addr), List.lookup x X.env.cells = some c → c ≠ C) (hc4 : ∀ p ∈ X.pn ++ pins, p.1 ≠ C) (hc5 : ¬ C ∈ frs X.stack)
    (hW : ∀ cls d H', Wx cls d H' → W cls d σ H') (hx : CX X.prog X.w X.stack H s Wx u s') (hcf : cenv.frame = X.env.frame)
    (hR : ∀ h1 : Shared, (∃ m, h1.heap.Ns C m ∧ ∀ (h' : Heap), PySem.Heap.SameBut C h1.heap h' → wpAny (model X.prog X.w) X.A (passOn "comprehension.variables-let-go" u cenv) Qp X.xe { h1 with heap := h' }) → R (.error u) h1) :
    notedBy (model X.prog X.w) X.A cenv (fun e s'' => R (.error e) s'') u s' := by
  obtain ⟨a, B, H', cls, d, rfl, fly, hokB, ub, na, eos, bare, w⟩ := hx
  obtain ⟨oC, es, ep, gC, dC, kC, fC⟩ := hN
  have BC : B.get? C = some oC := ub.keep C oC gC hC hc5
  have HC : H' C = none := ub.free C oC gC hC
  obtain ⟨B', B1, B2⟩ := restrict B (fun b => !decide (b = C))
  have B1' : ∀ {b}, b ≠ C → B'.get? b = B.get? b := fun {b} hb => B1 b (by rw [decide_eq_false hb]; rfl)
  have B2' : B'.get? C = none := B2 C (by rw [decide_eq_true rfl]; rfl)
  obtain ⟨G, G1, G2⟩ := restrict s'.heap (fun b => !decide (b = C) && (decide (b ∈ frs X.stack) || (B.get? b).isSome))
  have G1' : ∀ {b}, b ≠ C → (b ∈ frs X.stack ∨ ∃ o, B.get? b = some o) → G.get? b = s'.heap.get? b := fun {b} hb h => G1 b (by
    rw [decide_eq_false hb]
    rcases h with h | ⟨o, h⟩
    · rw [decide_eq_true h]; rfl
    · rw [h, Bool.or_comm]; rfl)
  have Gin : ∀ {b o}, G.get? b = some o → b ≠ C ∧ (b ∈ frs X.stack ∨ ∃ o, B.get? b = some o) ∧ s'.heap.get? b = some o := fun {b o} h => by
    cases hp : (!decide (b = C) && (decide (b ∈ frs X.stack) || (B.get? b).isSome)) with
    | false => rw [G2 b hp] at h; cases h
    | true =>
      have h2 := G1 b hp
      rw [h] at h2
      rw [Bool.and_eq_true, Bool.or_eq_true, Bool.not_eq_true'] at hp
      exact ⟨of_decide_eq_false hp.1, hp.2.imp of_decide_eq_true Option.isSome_iff_exists.mp, h2.symm⟩
  have hokB' : HOk X.prog X.w H' B' := fun x o hx => (hokB x o hx).stay (fun b u hb hu => by
    have : b ≠ C := fun e => by
      subst e
      rcases hb with hb | hb
      · subst hb; rw [HC] at hx; cases hx
      · rw [HC] at hb; cases hb
    rw [B1' this]
    exact hu) (fun _ h => h) (fun _ _ h => h)
  have hokG : HOk X.prog X.w H' G := hokB'.kept fun b u hb => by
    have nb : b ≠ C := fun e => by subst e; rw [B2'] at hb; cases hb
    rw [B1' nb] at hb
    rw [G1' nb (.inr ⟨u, hb⟩)]
    exact fly.1 b u hb
  have un : Un (frs X.stack) [C] H H' s.heap G := by
    refine ⟨fun b o h1 h2 h3 h4 => ?_, fun b o h1 h2 h3 h4 => ?_, fun b o h1 h2 h3 => ub.free b o h1 h2, fun b o h1 h2 => ?_, ub.tups, ub.frzs, ub.tbls⟩
    · have nb : b ≠ C := fun e => h4 (List.mem_singleton.mpr e)
      have hb := ub.keep b o h1 h2 h3
      rw [G1' nb (.inr ⟨o, hb⟩)]
      exact fly.1 b o hb
    · have nb : b ≠ C := fun e => h4 (List.mem_singleton.mpr e)
      rw [G1' nb (.inl h3)]
      exact ub.slot b o h1 h3
    · have nb : b ≠ C := fun e => h2 (List.mem_singleton.mpr e)
      by_cases hb : b ∈ frs X.stack
      · rw [G1' nb (.inl hb)]
        obtain ⟨sl, e⟩ := ub.slot b o h1 hb
        exact ⟨_, e⟩
      · obtain ⟨o', e⟩ := ub.there b o h1 hb
        rw [G1' nb (.inr ⟨o', e⟩)]
        exact ⟨o', fly.1 b o' e⟩
  have IG : Inv X pins σ H' { s' with heap := G } := I.call' (s' := { s' with heap := G }) eos un hokG bare fun b hb => by
    rw [List.mem_singleton.mp hb]
    exact ⟨.inr hc2, hc1, hc3, hc4⟩
  show wpAny _ _ (noteFrame (.ref a) cenv) _ _ _
  rw [noteFrame_eq hcf]
  rw [hs] at fly
  refine PySem.HandSPX.looks_onZ Zc.steady (I.ok.frames.trans (by rw [hs])) hf fly fun h1 held up1 => hR _ ⟨m0, ⟨oC, es, ep, held.1 C oC BC, dC, kC, fC⟩, fun h' sb => ?_⟩
  have sb' : ∀ {b}, b ≠ C → h'.get? b = h1.get? b := fun {b} hb => sb.2 b hb
  obtain ⟨oe, vs, T, oT, ts, t1, t2, t3, t4, t5, t6, t7, t8, t9⟩ := held.2.2.2
  have aC : a ≠ C := fun e => by
    have h := held.2.1
    rw [e, BC] at h
    cases h
  have TC : T ≠ C := fun e => by rw [e, BC] at t5; cases t5
  have tr' : PySem.HandSPX.TracedZ h' B' a (Zc cls d) (rawInt X.env.locals) := ⟨oe, vs, T, oT, ts, by rw [sb' aC]; exact t1, t2, t3, t4, by rw [B1' TC]; exact t5, t6, by rw [sb' TC]; exact t7, t8, t9⟩
  have st' : B'.StaysIn h' := fun b o hb => by
    have nb : b ≠ C := fun e => by subst e; rw [B2'] at hb; cases hb
    rw [B1' nb] at hb
    rw [sb' nb]
    exact held.1 b o hb
  have ff' : h'.FunFrames B' (X.env :: X.outer) := funFrames_less (fun L hL => by
    have nL : L ≠ C := fun e => by rw [e, BC] at hL; cases hL
    exact ⟨sb' nL, by rw [B1' nL]; exact hL⟩) held.2.2.1
  unfold PySem.passOn
  refine wpAny_bind (wpAny_field (by rw [sb' aC]; exact t1) t3 t4 ?_)
  show wpAny _ _ (do setFlight (.ref a) cenv.frame; throw (Value.ref a)) _ _ _
  refine wpAny_bind (PySem.HandSPX.setFlight_anyZ (s := { s' with heap := h' }) st' ff' tr' fun h2 st2 ff2 tr2 up2 => wpAny_throw ?_)
  rw [hcf, hf] at tr2
  refine tk _ _ ⟨a, B', { s' with heap := G }, pins, σ, H', cls, d, rfl, IG, fun b o hb nb => ?_, fun b o hb hd => ?_, ?_, na, rfl, bare, hW _ _ _ w⟩
  · obtain ⟨g1, g2, g3⟩ := Gin hb
    rcases g2 with g2 | ⟨o', g2⟩
    · exact absurd g2 nb
    · rw [B1' g1, g2]
      have := fly.1 b o' g2
      rw [g3] at this
      exact this.symm
  · obtain ⟨g1, g2, g3⟩ := Gin hb
    obtain ⟨sl, e⟩ := up1 b o g3 hd
    obtain ⟨sl2, e2⟩ := up2 b _ ((sb' g1).trans e) hd
    exact ⟨sl2, e2⟩
  · rw [hs]
    refine .inr (.inr ⟨st2, by rw [B1' aC]; exact held.2.1, ff2, ?_⟩)
    exact tr2
theorem from_blk {pins pn pins' : List (Addr × Obj)} {σ σ' : L2.St} {H H' : Hp} {s s' : Shared} {scope : Scope} {cenv : Env} {fp : List Addr} {xe : Value → Shared → Prop} (I : Inv X pins σ H s) (hfp : ∀ b ∈ fp, FpOk X pins H b) (J : Inv ((X.blk s H scope cenv fp).tr pn xe) pins' σ' H' s') : Inv X pins σ H' s' :=
  I.call' J.os J.base J.hok J.bare fun b hb => by
    obtain ⟨h1, h2, h3, h4, h5, h6⟩ := hfp b hb
    exact ⟨h4, h2, h5, h6⟩
abbrev bkX (X : Cx) (s : Shared) (H : Hp) (scope : Scope) (C : Addr) (fp : List Addr) (R : Result → Shared → Prop) : Cx := (X.blk s H scope (compEnvC scope [] C X.env) fp).tr [] fun e s' => notedBy (model X.prog X.w) X.A (compEnvC scope [] C X.env) (fun e s'' => R (.error e) s'') e s'
/-- [e for x in ..], exceptions out of e leave -/
theorem pe_lcX {W : WX} {Wx : XK} {elt tg iter : Expr} {scope : Scope} {own : List (Str × Nat)} {pos : Pos} {wi : TI} {g : TG} {te : TE} (hc : X.calm = true) (nd : X.N.Nodup) (hs : X.stack = X.env :: X.outer) (hf : X.env.frame = some X.env.locals) (tk : Takes X W) (hW : ∀ cls d σ H, Wx cls d H → W cls d σ H)
    (hi : PI X tg iter wi) (hb : BlkOk X.N X.env.scope scope own) (hfree : ∀ x ∈ scope.names, x.2 ≠ .free)
    (hg : ∀ (s : Shared) (H : Hp) (C : Addr) (cl : List (Str × Addr)) (fp : List Addr) (pn : List (Addr × Obj)) (xe : Value → Shared → Prop), PG ((X.blk s H scope (compEnvC scope cl C X.env) fp).tr pn xe) tg g)
    (he : ∀ (s : Shared) (H : Hp) (C : Addr) (cl : List (Str × Addr)) (fp : List Addr) (pn : List (Addr × Obj)) (xe : Value → Shared → Prop), Passes (CX X.prog X.w) ((X.blk s H scope (compEnvC scope cl C X.env) fp).tr pn xe) Wx → PE ((X.blk s H scope (compEnvC scope cl C X.env) fp).tr pn xe) elt te)
    (hfold : ∀ x : Value, foldedSetIterable iter X.env x = pure x := by intro _; rfl) (hcl : ∀ n, cellsFrom n scope.names [] = [] := by intro _; rfl) (hclo : cloFrom X.env.cells scope.names [] = [] := by rfl) (hrel : relabel scope X.env = scope := by rfl) (hpush : ∀ h, pushCells h scope.names = h := by intro _; rfl) :
    PE X (.ListComp elt [⟨tg, iter, [], 0⟩] scope pos) (tLc wi g tYes te (own.map (·.2))) := by
  refine ⟨fun pins s σ H Q I h => ?_⟩
  refine wpAny_ListComp hfree hb.kind (fun x hx hl => (hb.uniq x hx).trans (by rw [hl])) ?_ hfold
  refine thn (hi.run pins s σ H _ I h) fun v s1 hv => thn hv fun itv s2 hp => ?_
  obtain ⟨it, fp, tn, J, H1, rfl, I1, T, t0, hfp, hJ⟩ := hp
  have hfp2 : ∀ b ∈ fp, b < s2.heap.objs.size := fun b hb => by
    obtain ⟨o, ho, _⟩ := T.obj 0 _ t0 b hb
    exact Heap.lt_size ho
  refine wpAny_newList ?_
  have D0 : H1 s2.heap.objs.size = none := I1.hok.fresh (Nat.le_refl _)
  have I2 := I1.lnew (ys := []) (its := []) (t' := s2.toks) .nil (Nat.zero_le _)
  generalize hD : s2.heap.objs.size = D at I2 D0
  obtain ⟨Wd, ⟨m0, w0⟩, wst⟩ := hJ D D0
  generalize hs3 : (s2.heap.push { cls := .type "list", data := .seq ([] : List Value).toArray }) = h3 at I2
  have sz3 : h3.objs.size = D + 1 := by
    rw [← hs3, ← hD]
    exact Array.size_push _
  have t3 : tn 0 h3 := T.keep 0 _ _ t0 fun b hb o ho => by
    rw [← hs3]
    exact Heap.get?_push_of_some _ ho
  have ok := I2.ok
  have hfp2' : ∀ b ∈ fp, b < D := fun b hb => hD ▸ hfp2 b hb
  have hfp3 : ∀ b ∈ fp, FpOk X pins (upd H1 D (.lst [])) b := fun b hb => by
    obtain ⟨h1, h2⟩ := hfp b hb
    refine ⟨?_, h2⟩
    rw [upd_ne (Nat.ne_of_lt (hfp2' b hb))]
    exact h1
  have J0 := block_start (scope := scope) (own := own) (fp := fp) I2 hb nd fun b hb => ⟨hfp3 b hb, (Nat.lt_trans (hfp2' b hb) (by rw [sz3]; exact Nat.lt_succ_self D))⟩
  rw [hclo, hcl, hpush] at J0
  refine newEnv_comp ?_
  rw [hcl, hpush]
  have ec : ({ scope := scope, locals := h3.objs.size, globals := X.env.globals, cells := [], qual := X.env.qual, func := none, code := X.env.code, frame := X.env.frame, builtins := X.env.builtins } : Env) = compEnvC scope [] h3.objs.size X.env := by
    unfold compEnvC
    rw [hrel]
  suffices hh : ∀ R : Result → Shared → Prop, (R = fun r s' => ∃ m, s'.heap.Ns h3.objs.size m ∧ ∀ (h' : Heap), PySem.Heap.SameBut h3.objs.size s'.heap h' → match r with
      | .ok _ => EP X pins σ Q (.ref D) { s' with heap := h' }
      | .error x => wpAny (model X.prog X.w) X.A (PySem.passOn "comprehension.variables-let-go" x (compEnvC scope [] h3.objs.size X.env)) (EP X pins σ Q) X.xe { s' with heap := h' }) →
      codeAny (model X.prog X.w) X.A (.compStart (.ListComp elt [⟨tg, iter, [], 0⟩] scope pos) 0 (.ref it) (.ref D) (compEnvC scope [] h3.objs.size X.env)) R { s2 with heap := h3.push { cls := .type "dict", data := .dict #[] } } by
    have h2 := hh _ rfl
    rw [← ec] at h2
    exact h2
  intro R hR
  -- the block's own names stand at C
  have gsz : ∀ {b : Addr} {o : Obj}, h3.get? b = some o → b < h3.objs.size := fun h => Heap.lt_size h
  have hl : X.env.locals < h3.objs.size := by
    obtain ⟨m, ⟨o, _, _, ho, _⟩, _⟩ := I2.loc
    exact gsz ho
  have hl0 := ok.above
  have hfr : ∀ b ∈ frs X.stack, b < h3.objs.size := fun b hb => by
    rw [hs] at hb
    obtain ⟨e, e1, e2⟩ := List.mem_filterMap.mp hb
    rcases List.mem_cons.mp e1 with e1 | e1
    · subst e1
      rw [hf] at e2
      obtain rfl : X.env.locals = b := Option.some.inj e2
      exact hl
    · obtain ⟨_, o, ho, _⟩ := ok.funs.mem (List.mem_filterMap.mpr ⟨e, e1, e2⟩)
      exact Nat.lt_trans (Nat.lt_of_lt_of_le (Heap.lt_size ho) hl0) hl
  have hce : ∀ (x : Str) (c : Addr), List.lookup x X.env.cells = some c → c ≠ h3.objs.size := fun x c hx => by
    obtain ⟨v, o, ho, _⟩ := I2.cell x c hx
    exact Nat.ne_of_lt (gsz ho)
  have hpi : ∀ p ∈ X.pn ++ pins, p.1 ≠ h3.objs.size := fun p hp => Nat.ne_of_lt (gsz (I2.pin p hp).1)
  generalize hC : h3.objs.size = C at J0 hl hfr hce hpi hR
  have hDC : D < C := by rw [← hC, sz3]; exact Nat.lt_succ_self D
  have h0C : X.s_0.heap.objs.size ≤ C := Nat.le_trans hl0 (Nat.le_of_lt hl)
  have J1 := J0.toTry fun e s' => notedBy (model X.prog X.w) X.A (compEnvC scope [] C X.env) (fun e s'' => R (.error e) s'') e s'
  have T2 : tn 0 (h3.push { cls := .type "dict", data := .dict #[] }) := T.keep 0 _ _ t3 fun b hb o ho => Heap.get?_push_of_some _ ho
  have hps : Passes (CX X.prog X.w) (bkX X { s2 with heap := h3 } (upd H1 D (.lst [])) scope C fp R) Wx := fun pins' σ' H' s' e s'' Ib cx => by
    obtain ⟨m, hm, _⟩ := Ib.loc
    exact out_of_block (W := W) (C := C) (Qp := EP X pins σ Q) hs hf tk (from_blk I2 hfp3 Ib) Ib.free hm (Nat.ne_of_gt hl) h0C (fun x c hx => hce x c hx) hpi (fun hm => Nat.lt_irrefl _ (hfr _ hm)) (fun cls d H' => hW cls d σ H') cx rfl fun h1 ⟨m, n, k⟩ => by
      rw [hR]
      exact ⟨m, n, fun h' sb => k h' sb⟩
  have loop : ∀ (n : Nat) (s : Shared), (∃ (i : Nat) (Hc : Hp), Inv (bkX X { s2 with heap := h3 } (upd H1 D (.lst [])) scope C fp R) [] (wipe σ (own.map (·.2))) Hc s ∧ tn i s.heap ∧ (∀ b ∈ fp, Hc b = none) ∧ Wd i n Hc) →
      codeAny (model X.prog X.w) X.A (.compLoop (.ListComp elt [⟨tg, iter, [], 0⟩] scope pos) 0 (.ref it) (.ref D) (compEnvC scope [] C X.env)) R s := fun n s hI => by
    refine compLoop_any (fun n s => ∃ (i : Nat) (Hc : Hp), Inv (bkX X { s2 with heap := h3 } (upd H1 D (.lst [])) scope C fp R) [] (wipe σ (own.map (·.2))) Hc s ∧ tn i s.heap ∧ (∀ b ∈ fp, Hc b = none) ∧ Wd i n Hc) ?_ n hI
    clear hI n s
    rintro n s ⟨i, Hc, Ib, ht, hn, w⟩
    have fpok : ∀ {Hc : Hp}, (∀ b ∈ fp, Hc b = none) → ∀ b ∈ fp, FpOk (bkX X { s2 with heap := h3 } (upd H1 D (.lst [])) scope C fp R) [] Hc b := fun {Hc} hn b hb => by
      obtain ⟨h1, h2, h3', h4, h5, h6⟩ := hfp b hb
      refine ⟨hn b hb, Nat.ne_of_lt (Nat.lt_trans (hfp2' b hb) hDC), (show ¬ b ∈ frs X.stack from fun hm => ?_), .inl hb, fun x c hx => (by cases hx), fun p hp => (by cases hp)⟩
      rw [hs] at hm
      obtain ⟨e, e1, e2⟩ := List.mem_filterMap.mp hm
      rcases List.mem_cons.mp e1 with e1 | e1
      · subst e1
        rw [hf] at e2
        exact h2 (Option.some.inj e2).symm
      · exact h3' (List.mem_filterMap.mpr ⟨e, e1, e2⟩)
    rcases wst i n Hc w with ⟨stop, q⟩ | ⟨go, Nx, hnx, hstep⟩
    · refine thn (T.done (bkX X { s2 with heap := h3 } (upd H1 D (.lst [])) scope C fp R) rfl rfl rfl hc i [] s _ Hc _ Ib (fpok hn) ht stop) fun r s1 ⟨er, Ib1⟩ => ?_
      subst er
      show R (.ok .next) s1
      obtain ⟨m, hm, _⟩ := Ib1.loc
      rw [hR]
      refine ⟨m, hm, fun h' sb => ⟨.ref D, Hc, ?_, rfl, q⟩⟩
      exact (from_blk I2 hfp3 Ib1).turned (it := C) (t' := s1.toks) (fun b o hb hg => by rw [sb.2 b hb]; exact hg) Ib1.free (Nat.ne_of_gt hl) (.inr h0C) (fun x c hx => hce x c hx) hpi
    · refine thn (T.item (bkX X { s2 with heap := h3 } (upd H1 D (.lst [])) scope C fp R) rfl rfl rfl hc i [] s _ Hc _ Ib (fpok hn) ht go) fun r s1 ⟨u, er, hlt⟩ => ?_
      subst er
      refine thn hlt fun _ s5 ⟨x, Hy, Iy, rx, yld, ty, ny⟩ => ?_
      have Ip := Iy.pinned (fp := fp) (fpok ny) (T.obj (i + 1) _ ty)
      have keepT : ∀ {σ' : L2.St} {H' : Hp} {s' : Shared}, Inv (bkX X { s2 with heap := h3 } (upd H1 D (.lst [])) scope C fp R) ([] ++ pinsAt fp s5.heap) σ' H' s' → wipe σ' (own.map (·.2)) = wipe σ (own.map (·.2)) → ∀ m, Wd (i + 1) m H' → ∃ (i : Nat) (Hc : Hp), Inv (bkX X { s2 with heap := h3 } (upd H1 D (.lst [])) scope C fp R) [] (wipe σ (own.map (·.2))) Hc s' ∧ tn i s'.heap ∧ (∀ b ∈ fp, Hc b = none) ∧ Wd i m Hc := fun {σ' H' s'} I' hw m w' => by
        have hpin : ∀ b ∈ fp, ∀ o, s5.heap.get? b = some o → s'.heap.get? b = some o ∧ H' b = none := fun b hb o ho => by
          have := I'.pin (b, o) (List.mem_append_right _ (mem_pinsAt hb ho))
          exact ⟨this.1, this.2.1⟩
        refine ⟨i + 1, H', ?_, T.keep (i + 1) _ _ ty fun b hb o ho => (hpin b hb o ho).1, fun b hb => ?_, w'⟩
        · rw [← hw]
          exact (Inv.unpinned (pins := []) I').weak (wipe_length _ _) fun j v h => (wipe_some h).1
        · obtain ⟨o, ho, _⟩ := T.obj (i + 1) _ ty b hb
          exact (hpin b hb o ho).2
      refine thn ((hg _ _ _ _ _ _ _).run _ s5 _ Hy x u _ Ip rx (hstep x Hy yld)) fun _ s6 ⟨σ2, H2, I6, hw2, htt⟩ => ?_
      refine thn ((pts_nil (X := bkX X { s2 with heap := h3 } (upd H1 D (.lst [])) scope C fp R)).run _ s6 σ2 H2 _ I6 htt) fun b s7 ⟨H3, I7, hb7⟩ => ?_
      cases b with
      | false =>
        obtain ⟨m', hm, w'⟩ := hnx _ hb7
        exact ⟨m', hm, keepT I7 hw2 m' w'⟩
      | true =>
        refine thn ((he _ _ _ _ _ _ _ hps).run _ s7 σ2 H3 _ I7 hb7) fun y s8 ⟨yv, H4, I8, ry, acc, hacc, hlen, nx⟩ => ?_
        refine app_ok (X := bkX X { s2 with heap := h3 } (upd H1 D (.lst [])) scope C fp R) I8 hacc hlen ry fun s9 I9 => ?_
        obtain ⟨m', hm, w'⟩ := hnx _ nx
        exact ⟨m', hm, keepT I9 hw2 m' w'⟩
  have i0 : ∃ (i : Nat) (Hc : Hp), Inv (bkX X { s2 with heap := h3 } (upd H1 D (.lst [])) scope C fp R) [] (wipe σ (own.map (·.2))) Hc { s2 with heap := h3.push { cls := .type "dict", data := .dict #[] } } ∧ tn i (h3.push { cls := .type "dict", data := .dict #[] }) ∧ (∀ b ∈ fp, Hc b = none) ∧ Wd i m0 Hc := ⟨0, _, J1, T2, fun b hb => (hfp3 b hb).1, w0⟩
  exact codeAny_compStart_list (loop m0 _ i0) (T.self _ 0 _ _ _ T2 (loop m0 _ i0))
/-- an exception of the class at C, without a dict of its own -/
def CxO (C a : Addr) : HO := .ext fun h => ∃ (oe : Obj) (vs : Array Value), h.get? a = some oe ∧ Zc (.ref C) none oe ∧ oe.data = .fields vs
theorem cxO_ok {P : Program} {w : World} {H : Hp} {h : Heap} {a C : Addr} {oe : Obj} {vs : Array Value} (h1 : h.get? a = some oe) (h2 : Zc (.ref C) none oe) (h3 : oe.data = .fields vs) : ObjOk P w H h a (CxO C a) :=
  ⟨⟨oe, vs, h1, h2, h3⟩, ⟨oe, h1⟩, fun g1 g2 ⟨o, v, e1, e2, e3⟩ k => ⟨o, v, k _ e1, e2, e3⟩⟩
/-- an object that was made since the start, tracked from here on -/
theorem inv_track {pins : List (Addr × Obj)} {σ : L2.St} {H : Hp} {s : Shared} {a : Addr} {o : HO} {oe : Obj} {vs : Array Value} (I : Inv X pins σ H s) (na : H a = none) (h0 : X.s_0.heap.get? a = none) (he : s.heap.get? a = some oe) (hd : oe.data = .fields vs) (hp : ∀ p ∈ X.pn ++ pins, p.1 ≠ a) (ho : ObjOk X.prog X.w (upd H a o) s.heap a o) : Inv X pins σ (upd H a o) s := by
  have keep : ∀ {b : Addr} {u : HO}, H b = some u → upd H a o b = some u := fun {b u} hb => by
    rw [upd_ne fun e => by subst e; rw [na] at hb; cases hb]
    exact hb
  have base := I.base
  refine ⟨I.ok, I.os, I.bare, ⟨base.keep, base.slot, fun b u h1 h2 h3 => ?_, base.there, fun b xs hb => keep (base.tups b xs hb), fun b u v hb => keep (base.frzs b u v hb), fun b ps hb => ?_⟩, I.loc, I.cell, ?_, fun x c hx => ?_, fun p hp' => ?_, HOk.laidN (H := H) I.hok (fun _ _ h => h) na ho, I.len⟩
  · rw [upd_ne fun e => by subst e; rw [h0] at h1; cases h1]
    exact base.free b u h1 h2 h3
  · obtain ⟨more, hm⟩ := base.tbls b ps hb
    exact ⟨more, keep hm⟩
  · obtain ⟨m, ⟨ol, es, ep, hl, hld, _⟩, _⟩ := I.loc
    rw [upd_ne fun e => by
      rw [e, he] at hl
      obtain rfl := Option.some.inj hl
      rw [hd] at hld
      cases hld]
    exact I.free
  · obtain ⟨v, oc, hc, hcd⟩ := I.cell x c hx
    rw [upd_ne fun e => by
      rw [e, he] at hc
      obtain rfl := Option.some.inj hc
      rw [hd] at hcd
      cases hcd]
    exact I.freeC x c hx
  · obtain ⟨h1, h2, h3⟩ := I.pin p hp'
    exact ⟨h1, by rw [upd_ne (hp p hp')]; exact h2, h3⟩
theorem Down.new {pins : List (Addr × Obj)} {σ : L2.St} {H : Hp} {a : Addr} {cls : Value} {d : Option Addr} {B : Heap} {sI s : Shared} (hs : X.stack = X.env :: X.outer) (D : Down X pins σ H a cls d B sI s) : sI.heap.get? a = none := by
  cases h : sI.heap.get? a with
  | none => rfl
  | some o =>
    obtain ⟨oe, vs, h1, h2, h3⟩ := D.fly.there
    by_cases hf : a ∈ frs X.stack
    · rw [hs] at hf
      obtain ⟨_, o', e3, e4⟩ := D.fly.2.2.1.mem hf
      rw [h1] at e3
      cases e3
      exact absurd h3 (e4 _)
    · have := D.kB a o h hf
      rw [D.fly.2.1] at this
      cases this
/-- except c as n: y = n, the exception without a dict kept behind the suite -/
def wKeep (K : PySem.W.Frag) (c : Value) (C : Addr) (i j : Nat) (D : Ends) : WX := fun cls d σ H => cls = .ref C ∧ d = none ∧ PySem.W.exmOne K cls c = some true ∧ ∀ a, H a = none → D.nx (((σ.set i (some (.ref a))).set j (some (.ref a))).set i none) (upd H a (CxO C a))
theorem ps_tryKeep0 {x n y : Str} {c : Value} {C : Addr} {i j : Nat} {body : List Stmt} {np py p2 p3 pos pos' : Pos} {tb : WX → TS} (hs : X.stack = X.env :: X.outer) (hf : X.env.frame = some X.env.locals) (nd : X.N.Nodup) (hi : X.N[i]? = some n) (hln : X.env.kindOf n = some .local) (hj : X.N[j]? = some y) (hlj : X.env.kindOf y = some .local) (hc : Names X x c)
    (hb : ∀ (W : WX) (pn : List (Addr × Obj)) (xe : Value → Shared → Prop), Takes (X.tr pn xe) W → PassesOwn (model X.prog X.w) X.A X.env xe → PSs (X.tr pn xe) body (tb W))
    (hex : X.ex = [] := by rfl) (k1 : (n == ("__debug__" : Str)) = false := by rfl) (k2 : (n == ("__classdict__" : Str)) = false := by rfl) (k3 : swapsWith (.Name n p2) (some (.Name y py)) p3.line X.env = pure false := by rfl) :
    PS X (.Try body [.ExceptHandler (some (.Name x np)) (some n) [.Assign [.Name y py] (.Name n p2) p3] pos'] [] [] pos) (fun D σ H => tb (wKeep X.K c C i j D) D σ H) := by
  refine ⟨fun pins s σ H D I h => ?_⟩
  refine wpAny_Try_except ?_
  have ok := I.ok
  refine wpAny_mono ((hb (wKeep X.K c C i j D) (X.pn ++ pins) (fun e s₁ => wpAny (model X.prog X.w) X.A (noteFrame e X.env) (fun _ s₂ => wpAny (model X.prog X.w) X.A (setFlight e none) (fun _ s₃ => wpAny (model X.prog X.w) X.A (handleBy e X.env [.ExceptHandler (some (.Name x np)) (some n) [.Assign [.Name y py] (.Name n p2) p3] pos']) (SP X pins D) X.xe s₃) X.xe s₂) X.xe s₁) ?tk PassesOwn.looking).run [] s σ H D (I.toTry _) h) (fun f s' q => ?_) (fun _ _ z => z)
  case tk =>
    rintro u s' ⟨a, B, sI, pins', σ', H', cls, d, rfl, I1, kB, up, sky, na, eos, bare, rfl, rfl, he, w⟩
    have I2 : Inv X pins σ' H' sI := I1.ofTry ok
    rw [show (X.tr (X.pn ++ pins) _).stack = X.env :: X.outer from hs] at sky
    refine Sky.land Zc.steady (ok.frames.trans (by rw [hs])) hf sky fun h' fly up2 => ?_
    have dn : Down X pins σ' H' a (.ref C) none B sI { s' with heap := h' } := ⟨I2, kB, up.trans up2, fly, na, eos, bare⟩
    have new := dn.new hs
    have h0 : X.s_0.heap.get? a = none := by
      cases hh : X.s_0.heap.get? a with
      | none => rfl
      | some o =>
        by_cases hx : a ∈ X.ex
        · rw [hex] at hx
          cases hx
        · obtain ⟨o', ho'⟩ := I2.base.there a o hh hx
          rw [new] at ho'
          cases ho'
    have hpn : ∀ p ∈ X.pn ++ pins, p.1 ≠ a := fun p hp e => by
      have := (I2.pin p hp).1
      rw [e, new] at this
      cases this
    refine wpAny_handleBy_cons (dn.test hf hc he ?_) (fun e => by cases e)
    refine codeAny_handlers_suite_as (PySem.HandSPX.lands_againZ dn.fly fun h2 f u => ?_)
    have dn2 := dn.next f u
    obtain ⟨oe, vs, g1, g2, g3, I3⟩ := dn2.suite hf
    refine store_ok (X := X.suite a ((a, oe) :: (X.pn ++ pins))) (v := .ref a) I3 nd hi (.inl hln) rfl (fun s2 I4 => ?_) (.inr hln)
    have P1 : PSs (X.suite a ((a, oe) :: (X.pn ++ pins))) [.Assign [.Name y py] (.Name n p2) p3] (tAsg (tVar i) (gName j)) := pss_one (ps_set (X := X.suite a ((a, oe) :: (X.pn ++ pins))) nd hj (.inl hlj) (pe_var hi (.inl hln) k1 k2) k3 (.inr hlj))
    have lt : i < σ'.length := by
      rw [I2.len]
      exact (List.getElem?_eq_some_iff.mp hi).1
    refine wpAny_mono (P1.run [] _ _ H' { nx := fun σ2 H2 => σ2 = (σ'.set i (some (.ref a))).set j (some (.ref a)) ∧ H2 = H', rt := fun _ _ => False } I4 ⟨.ref a, by rw [List.getElem?_set_self lt], rfl, rfl⟩) (fun f s3 q => ?_) (fun _ _ z => z.elim)
    cases f with
    | brk => obtain ⟨_, _, _, z⟩ := q; exact z.elim
    | cont => obtain ⟨_, _, _, z⟩ := q; exact z.elim
    | ret u => obtain ⟨_, _, _, _, _, z⟩ := q; exact z.elim
    | next =>
      obtain ⟨σ2, H2, I5, rfl, rfl⟩ := q
      refine gone_ok (X := X.suite a ((a, oe) :: (X.pn ++ pins))) I5 nd hi hln fun s4 I6 => ?_
      have ga := (I6.pin (a, oe) (List.mem_append_left _ List.mem_cons_self)).1
      exact ⟨_, _, inv_track (I6.unsuite ok) na h0 ga g3 hpn (cxO_ok ga g2 g3), w a na⟩
  · cases f with
    | next => obtain ⟨σ', H', I', q⟩ := q; exact wpAny_execs_nil ⟨σ', H', I'.ofTry ok, q⟩
    | brk => obtain ⟨σ', H', I', q⟩ := q; exact ⟨σ', H', I'.ofTry ok, q⟩
    | cont => obtain ⟨σ', H', I', q⟩ := q; exact ⟨σ', H', I'.ofTry ok, q⟩
    | ret u => obtain ⟨v, σ', H', I', r, q⟩ := q; exact ⟨v, σ', H', I'.ofTry ok, r, q⟩
theorem ps_tryKeep {K : PySem.W.Frag} {x n y : Str} {c : Value} {C : Addr} {i j : Nat} {body : List Stmt} {np py p2 p3 pos pos' : Pos} {tb : WX → TS} (hs : X.stack = X.env :: X.outer) (hf : X.env.frame = some X.env.locals) (nd : X.N.Nodup) (hi : X.N[i]? = some n) (hln : X.env.kindOf n = some .local) (hj : X.N[j]? = some y) (hlj : X.env.kindOf y = some .local) (hc : Names X x c)
    (hb : ∀ (W : WX) (pn : List (Addr × Obj)) (xe : Value → Shared → Prop), Takes (X.tr pn xe) W → PassesOwn (model X.prog X.w) X.A X.env xe → PSs (X.tr pn xe) body (tb W)) (hK : X.K = K := by rfl)
    (hex : X.ex = [] := by rfl) (k1 : (n == ("__debug__" : Str)) = false := by rfl) (k2 : (n == ("__classdict__" : Str)) = false := by rfl) (k3 : swapsWith (.Name n p2) (some (.Name y py)) p3.line X.env = pure false := by rfl) :
    PS X (.Try body [.ExceptHandler (some (.Name x np)) (some n) [.Assign [.Name y py] (.Name n p2) p3] pos'] [] [] pos) (tTry tb (wKeep K c C i j)) := by
  subst hK
  exact ps_tryKeep0 hs hf nd hi hln hj hlj hc hb hex k1 k2 k3
/-- isinstance(e, c), e an exception that is tracked -/
def rIsX (K : PySem.W.Frag) (C : Addr) : List V → Hp → VK → Prop := fun xs H Q => ∃ (a : Addr) (c : V) (cv : Value) (b : Bool), xs = [.ref a, c] ∧ H a = some (CxO C a) ∧ (∀ u, RelV c u → u = cv) ∧ PySem.W.kitOne K (.ref C) cv = some b ∧ Q (.bl b) H
theorem bIsX {K : PySem.W.Frag} {C : Addr} (CE : ExcC K C) (cl : (PySem.W.clsIn K C).isSome = true) (h : X.K = K := by rfl) : CallR X (.builtin "isinstance") (rIsX K C) := by
  subst h
  rintro pins s σ H xs us Q I r ⟨a, c, cv, b, rfl, hH, hc, hk, q⟩
  obtain ⟨u1, u2, rfl, r1, r2⟩ : ∃ u1 u2, us = [u1, u2] ∧ RelV (.ref a) u1 ∧ RelV c u2 := by
    cases r with
    | cons h1 r => cases r with
      | cons h2 r => cases r with
        | nil => exact ⟨_, _, rfl, h1, h2⟩
  obtain rfl : u1 = Value.ref a := r1
  obtain rfl := hc u2 r2
  obtain ⟨oe, vs, ha, hz, hv⟩ := (show ∃ (oe : Obj) (vs : Array Value), s.heap.get? a = some oe ∧ Zc (.ref C) none oe ∧ oe.data = .fields vs from (I.hok a _ hH).1)
  have IA : PySem.W.InstAt s.heap a oe C none := ⟨ha, hz.1, by unfold PySem.W.notCls; rw [hv], by rw [hz.2]; trivial⟩
  exact PySem.W.kia_one (H := fun h => PySem.W.InstAt h a oe C none) (PySem.W.kitx_exc cl CE.hg CE.hk CE.hs CE.ha CE.hn CE.ht CE.hm) I.kIn IA hk (fun z => by cases z) fun tk => ⟨.bl b, H, I.tok tk, ⟨rfl, q⟩⟩
end
section
variable {K : PySem.W.Frag} {σ : L2.St} {H : Hp} {P : V → Hp → Prop} {D : Ends}
theorem c_isX {C a D0 : Addr} {b : Bool} (hH : H a = some (CxO C a)) (hk : PySem.W.kitOne K (.ref C) (.ref D0) = some b) (hp : P (.bl b) H) : CK (rIsX K C) [.ref a, .ref D0] H P := fun H1 e Q k => ⟨a, .ref D0, .ref D0, b, rfl, e _ _ hH, fun u r => r, hk, k _ _ ⟨H, e, hp⟩⟩
theorem c_isXT {C a : Addr} {n : String} {b : Bool} (hH : H a = some (CxO C a)) (hk : PySem.W.kitOne K (.ref C) (.type n) = some b) (hp : P (.bl b) H) : CK (rIsX K C) [.ref a, .ty n] H P := fun H1 e Q k => ⟨a, .ty n, .type n, b, rfl, e _ _ hH, fun u r => r, hk, k _ _ ⟨H, e, hp⟩⟩
/-- what is asked of the exception that a kept clause takes -/
theorem ke_keep {c : Value} {C : Addr} {i j : Nat} (he : PySem.W.exmOne K (.ref C) c = some true) (h : ∀ a, H a = none → ∀ H1, Ex (upd H a (CxO C a)) H1 → D.nx (((σ.set i (some (.ref a))).set j (some (.ref a))).set i none) H1) : KE (WE (wKeep K c C i j D) σ) (.ref C) none H := fun H1 e =>
  ⟨rfl, rfl, he, fun a na => h a (fresh_back e na) _ (Ex.updm e)⟩
end
end Px

set_option Elab.async false
set_option linter.all false
set_option maxRecDepth 100000
set_option maxHeartbeats 400000
/-! Pz: what the notes of gifts are, sign by sign. -/
namespace Pz
open PySem SX TL Pn
def ok (l : List Nat) (m : Nat) : Bool := decide (1 ≤ l.length) && decide (l.length ≤ m) && l.all (fun c => decide (c ∈ fig)) && !(decide (l.head? = some 48) && decide (1 < l.length))
def num (l : List Nat) (m : Nat) : Option Nat := if ok l m = true then some (NumText.digitsVal l) else none
def cut (c : Nat) : List Nat → Option (List Nat × List Nat)
  | [] => none
  | x :: r => if x = c then some ([], r) else (cut c r).map fun p => (x :: p.1, p.2)
def three : Option Nat → Option Nat → Option Nat → Option Pg.Gift
  | some g, some k, some a => if g = k ∨ a = 0 then none else some ((g : Int), (k : Int), (a : Int))
  | _, _, _ => none
def gw (w : List Nat) : Option Pg.Gift := match cut 58 w with
  | none => none
  | some (e, t) => match cut 62 e with
    | none => none
    | some (h, b) => three (num h 2) (num b 2) (num t 61)
def mapO {α β : Type} (f : α → Option β) : List α → Option (List β)
  | [] => some []
  | x :: r => match f x, mapO f r with
    | some y, some ys => some (y :: ys)
    | _, _ => none
def rd (l : List Nat) : Option (List Pg.Gift) := if l = [] then some [] else mapO gw (spl [32] 0 [] l)
theorem mapO_snoc {α β : Type} {f : α → Option β} : ∀ {l : List α} {x : α} {ys : List β} {y : β}, mapO f l = some ys → f x = some y → mapO f (l ++ [x]) = some (ys ++ [y])
  | [], x, ys, y, h, hx => by
    obtain rfl : [] = ys := Option.some.inj h
    show (match f x, mapO f [] with | some y, some ys => some (y :: ys) | _, _ => none) = _
    rw [hx]
    rfl
  | a :: l, x, ys, y, h, hx => by
    unfold mapO at h
    cases ha : f a with
    | none => rw [ha] at h; cases h
    | some b =>
      cases hl : mapO f l with
      | none => rw [ha, hl] at h; cases h
      | some bs =>
        rw [ha, hl] at h
        obtain rfl : b :: bs = ys := Option.some.inj h
        have ih := mapO_snoc hl hx
        show (match f a, mapO f (l ++ [x]) with | some y, some ys => some (y :: ys) | _, _ => none) = _
        rw [ha, ih]
        rfl
theorem mapO_none {α β : Type} {f : α → Option β} : ∀ {l : List α} {x : α}, x ∈ l → f x = none → mapO f l = none
  | a :: l, x, h, hx => by
    unfold mapO
    rcases List.mem_cons.mp h with h | h
    · subst h
      rw [hx]
    · rw [mapO_none h hx]
      cases f a <;> rfl
theorem cut_none {c : Nat} : ∀ {l : List Nat}, cut c l = none → c ∉ l
  | [], _ => fun h => nomatch h
  | x :: r, h => by
    unfold cut at h
    by_cases e : x = c
    · rw [if_pos e] at h
      cases h
    · rw [if_neg e] at h
      cases hr : cut c r with
      | some p => rw [hr] at h; cases h
      | none =>
        have ih := cut_none hr
        intro hm
        rcases List.mem_cons.mp hm with hm | hm
        · exact e hm.symm
        · exact ih hm
theorem cut_some {c : Nat} : ∀ {l a b : List Nat}, cut c l = some (a, b) → l = a ++ (c :: b) ∧ c ∉ a
  | [], _, _, h => by cases h
  | x :: r, a, b, h => by
    unfold cut at h
    by_cases e : x = c
    · rw [if_pos e] at h
      obtain ⟨rfl, rfl⟩ := Prod.mk.inj (Option.some.inj h)
      exact ⟨by rw [e]; rfl, fun h => nomatch h⟩
    · rw [if_neg e] at h
      cases hr : cut c r with
      | none => rw [hr] at h; cases h
      | some p =>
        rw [hr] at h
        obtain ⟨h1, h2⟩ := Prod.mk.inj (Option.some.inj h)
        obtain ⟨i1, i2⟩ := cut_some (a := p.1) (b := p.2) hr
        subst h1 h2
        refine ⟨by rw [i1]; rfl, fun hm => ?_⟩
        rcases List.mem_cons.mp hm with hm | hm
        · exact e hm.symm
        · exact i2 hm
theorem part_none {c : Nat} {l : List Nat} (h : cut c l = none) : Txt.partition (S l) (S [c]) = (S l, S [], S []) := partition_none (List.cons_ne_nil _ _) (par_head_none (cut_none h))
theorem part_some {c : Nat} {l a b : List Nat} (h : cut c l = some (a, b)) : Txt.partition (S l) (S [c]) = (S a, S [c], S b) := by
  obtain ⟨h1, h2⟩ := cut_some h
  rw [h1]
  exact partition_some (List.cons_ne_nil _ _) (par_head (c := c) (sep := []) _ h2)
theorem spl_none {c : Nat} {l : List Nat} (h : cut c l = none) : spl [c] 0 [] l = [l] := spl_last1 (cut_none h)
theorem spl_some {c : Nat} {l a b : List Nat} (h : cut c l = some (a, b)) : spl [c] 0 [] l = a :: spl [c] 0 [] b := by
  obtain ⟨h1, h2⟩ := cut_some h
  rw [h1]
  exact spl_part1 (S := []) (acc := []) h2
theorem spl_ne {c : Nat} (l : List Nat) : 1 ≤ (spl [c] 0 [] l).length := by
  cases h : cut c l with
  | none => rw [spl_none h]; exact Nat.le_refl _
  | some p => rw [spl_some (a := p.1) (b := p.2) h]; exact Nat.succ_le_succ (Nat.zero_le _)
/-- two parts just where the sign stands once -/
theorem spl_two {c : Nat} {l a b : List Nat} (h : cut c l = some (a, b)) : (spl [c] 0 [] l).length = 2 ↔ c ∉ b := by
  rw [spl_some h, List.length_cons]
  cases hb : cut c b with
  | none =>
    rw [spl_none hb]
    exact ⟨fun _ => cut_none hb, fun _ => rfl⟩
  | some p =>
    obtain ⟨h1, _⟩ := cut_some (a := p.1) (b := p.2) hb
    rw [spl_some (a := p.1) (b := p.2) hb, List.length_cons]
    have := spl_ne (c := c) p.2
    exact ⟨fun e => by omega, fun e => absurd (by rw [h1]; exact List.mem_append_right _ List.mem_cons_self) e⟩
theorem num_mem {l : List Nat} {m n c : Nat} (h : num l m = some n) (hc : c ∈ l) : c ∈ fig := by
  unfold num at h
  by_cases k : ok l m = true
  · unfold ok at k
    rw [Bool.and_eq_true, Bool.and_eq_true, List.all_eq_true] at k
    exact of_decide_eq_true (k.1.2 c hc)
  · rw [if_neg k] at h
    cases h
theorem num_free {l : List Nat} {m c : Nat} (hf : c ∉ fig) (hc : c ∈ l) : num l m = none := by
  cases h : num l m with
  | none => rfl
  | some n => exact absurd (num_mem h hc) hf
/-- a word's gift, as the law finds it: both signs stand once -/
theorem gw_colon {w : List Nat} (h : (spl [58] 0 [] w).length ≠ 2) : gw w = none := by
  unfold gw
  cases hc : cut 58 w with
  | none => rfl
  | some p =>
    obtain ⟨e, t⟩ := p
    have : 58 ∈ t := by
      refine Classical.byContradiction fun hn => h ((spl_two hc).mpr hn)
    dsimp only
    cases h2 : cut 62 e with
    | none => rfl
    | some q =>
      obtain ⟨a, b⟩ := q
      dsimp only
      rw [num_free (m := 61) (by decide) this]
      cases num a 2 <;> cases num b 2 <;> rfl
theorem gw_arrow {w e t : List Nat} (hc : cut 58 w = some (e, t)) (h : (spl [62] 0 [] e).length ≠ 2) : gw w = none := by
  unfold gw
  rw [hc]
  dsimp only
  cases h2 : cut 62 e with
  | none => rfl
  | some q =>
    obtain ⟨a, b⟩ := q
    have : 62 ∈ b := by
      refine Classical.byContradiction fun hn => h ((spl_two h2).mpr hn)
    dsimp only
    rw [num_free (m := 2) (by decide) this]
    cases num a 2 <;> rfl
theorem gw_parts {w : List Nat} (h : (spl [58] 0 [] w).length = 2) : ∃ e t, cut 58 w = some (e, t) ∧ spl [58] 0 [] w = [e, t] := by
  cases hc : cut 58 w with
  | none => rw [spl_none hc] at h; cases h
  | some p =>
    obtain ⟨e, t⟩ := p
    refine ⟨e, t, rfl, ?_⟩
    have hn := (spl_two hc).mp h
    rw [spl_some hc, spl_last1 hn]
    rfl
theorem arrow_parts {w : List Nat} (h : (spl [62] 0 [] w).length = 2) : ∃ a b, cut 62 w = some (a, b) ∧ spl [62] 0 [] w = [a, b] := by
  cases hc : cut 62 w with
  | none => rw [spl_none hc] at h; cases h
  | some p =>
    obtain ⟨e, t⟩ := p
    refine ⟨e, t, rfl, ?_⟩
    have hn := (spl_two hc).mp h
    rw [spl_some hc, spl_last1 hn]
    rfl
/-- what the law takes for a number -/
def numI (l : List Nat) (m : Nat) : Int := match num l m with | none => -1 | some n => (n : Int)
theorem dv_nil : NumText.digitsVal [] = 0 := rfl
theorem dv_snoc (l : List Nat) (c : Nat) : NumText.digitsVal (l ++ [c]) = NumText.digitsVal l * 10 + (c - 48) := by
  unfold NumText.digitsVal
  rw [List.foldl_append]
  rfl
theorem fig_cases {c : Nat} (h : c ∈ fig) : 48 ≤ c ∧ c ≤ 57 := by
  unfold fig at h
  simp only [List.mem_cons, List.not_mem_nil, or_false] at h
  omega
theorem fold_lt : ∀ (l : List Nat) (a : Nat), (∀ c ∈ l, c ∈ fig) → l.foldl (fun acc c => acc * 10 + (c - 48)) a + 1 ≤ (a + 1) * 10 ^ l.length
  | [], a, _ => by
    show a + 1 ≤ (a + 1) * 1
    omega
  | c :: l, a, h => by
    have h2 := fig_cases (h c List.mem_cons_self)
    have ih := fold_lt l (a * 10 + (c - 48)) fun x hx => h x (List.mem_cons_of_mem _ hx)
    have h3 : (a * 10 + (c - 48) + 1) * 10 ^ l.length ≤ ((a + 1) * 10) * 10 ^ l.length := Nat.mul_le_mul_right _ (by omega)
    rw [List.length_cons, Nat.pow_succ, Nat.mul_comm (10 ^ l.length) 10, ← Nat.mul_assoc]
    exact Nat.le_trans ih h3
theorem dv_lt {l : List Nat} (h : ∀ c ∈ l, c ∈ fig) : NumText.digitsVal l < 10 ^ l.length := by
  have := fold_lt l 0 h
  rw [Nat.zero_add, Nat.one_mul] at this
  exact this
theorem lit_fig : Str.ofString "0123456789" = S fig := by decide +kernel
theorem find_fig (c : Nat) : Txt.find (S fig) (S [c]) = if c ∈ fig then ((c - 48 : Nat) : Int) else -1 := by
  by_cases h : c ∈ fig
  · rw [if_pos h]
    unfold fig at h
    simp only [List.mem_cons, List.not_mem_nil, or_false] at h
    rcases h with h | h | h | h | h | h | h | h | h | h <;> subst h <;> decide +kernel
  · rw [if_neg h]
    have e := in_one fig c
    rw [decide_eq_false h] at e
    unfold Txt.find
    cases ho : Builtin.Str.occurrences (S fig) (S [c]) 0 (S fig).length 1 with
    | nil => rfl
    | cons i r => rw [ho] at e; cases e
theorem int_dv {l : List Nat} (h : ∀ c ∈ l, c ∈ fig) (h0 : l ≠ []) (hl : l.length ≤ 4300) : intText? (S l) = some (NumText.digitsVal l : Int) := int_S (List.all_eq_true.mpr fun c hc => by
  have := fig_cases (h c hc)
  rw [decide_eq_true this.1, decide_eq_true this.2]
  rfl) h0 hl
theorem gw_eq {w e t a b : List Nat} (h1 : cut 58 w = some (e, t)) (h2 : cut 62 e = some (a, b)) : gw w = three (num a 2) (num b 2) (num t 61) := by
  unfold gw
  rw [h1]
  dsimp only
  rw [h2]
end Pz
namespace Pz
open PySem SX TL Pn
theorem spl_len {c : Nat} : ∀ (n : Nat) (l : List Nat), l.length ≤ n → (spl [c] 0 [] l).length ≤ l.length + 1 := fun n => by
  induction n with
  | zero =>
    intro l hl
    have : l = [] := List.eq_nil_of_length_eq_zero (by omega)
    subst this
    exact Nat.le_refl _
  | succ n ih =>
    intro l hl
    cases h : cut c l with
    | none => rw [spl_none h]; exact Nat.succ_le_succ (Nat.zero_le _)
    | some p =>
      obtain ⟨h1, _⟩ := cut_some (a := p.1) (b := p.2) h
      have hl2 : l.length = p.1.length + (p.2.length + 1) := by
        conv => lhs; rw [h1]
        rw [List.length_append, List.length_cons]
      rw [spl_some (a := p.1) (b := p.2) h, List.length_cons]
      have := ih p.2 (by omega)
      omega
theorem spl_part_len {c : Nat} : ∀ (n : Nat) (l : List Nat), l.length ≤ n → ∀ w ∈ spl [c] 0 [] l, w.length ≤ l.length := fun n => by
  induction n with
  | zero =>
    intro l hl w hw
    have : l = [] := List.eq_nil_of_length_eq_zero (by omega)
    subst this
    rw [List.mem_singleton.mp hw]
    exact Nat.le_refl _
  | succ n ih =>
    intro l hl w hw
    cases h : cut c l with
    | none =>
      rw [spl_none h] at hw
      rw [List.mem_singleton.mp hw]
      exact Nat.le_refl _
    | some p =>
      obtain ⟨h1, _⟩ := cut_some (a := p.1) (b := p.2) h
      have hl2 : l.length = p.1.length + (p.2.length + 1) := by
        conv => lhs; rw [h1]
        rw [List.length_append, List.length_cons]
      rw [spl_some (a := p.1) (b := p.2) h] at hw
      rcases List.mem_cons.mp hw with hw | hw
      · rw [hw]
        omega
      · have := ih p.2 (by omega) w hw
        omega
theorem mapO_len {α β : Type} {f : α → Option β} : ∀ {l : List α} {ys : List β}, mapO f l = some ys → ys.length = l.length
  | [], ys, h => by
    obtain rfl : [] = ys := Option.some.inj h
    rfl
  | a :: l, ys, h => by
    unfold mapO at h
    cases ha : f a with
    | none => rw [ha] at h; cases h
    | some b =>
      cases hl : mapO f l with
      | none => rw [ha, hl] at h; cases h
      | some bs =>
        rw [ha, hl] at h
        obtain rfl : b :: bs = ys := Option.some.inj h
        rw [List.length_cons, List.length_cons, mapO_len hl]
theorem rd_len {l : List Nat} {Gs : List Pg.Gift} (h : rd l = some Gs) : Gs.length ≤ l.length + 1 := by
  unfold rd at h
  split at h
  · obtain rfl : [] = Gs := Option.some.inj h
    exact Nat.zero_le _
  · rw [mapO_len h]
    exact spl_len _ l (Nat.le_refl _)
theorem cut_len {c : Nat} {l a b : List Nat} (h : cut c l = some (a, b)) : a.length ≤ l.length ∧ b.length ≤ l.length := by
  obtain ⟨h1, _⟩ := cut_some h
  rw [h1, List.length_append, List.length_cons]
  omega
theorem three_none1 {x y : Option Nat} : three none x y = none := rfl
theorem three_none2 {x y : Option Nat} : three x none y = none := by cases x <;> rfl
theorem three_none3 {x y : Option Nat} : three x y none = none := by cases x <;> cases y <;> rfl
end Pz

set_option Elab.async false
set_option linter.all false
set_option maxRecDepth 100000
set_option maxHeartbeats 4000000
namespace K10
open PySem PySem.Spec PyProof.Rows L2 Evl Px
def topS (i : Nat) : Stmt := PySem.Challenge.pw_pursewise_k10_notes_refused.main.body.getD i (.Pass ⟨0, 0, 0, 0⟩)
abbrev s_Lwhole : Stmt := topS 12
abbrev n_Lwhole : List Str := ["_law_found"]
theorem sc_Lwhole : FnScope n_Lwhole ["_law_found"] (defScope s_Lwhole) := ⟨rfl, rfl, rfl, by decide +kernel, rfl, by decide +kernel, by decide +kernel⟩
abbrev s_Lalike : Stmt := topS 22
abbrev n_Lalike : List Str := ["_law_found", "_law_due_here", "_law_k", "_law_j"]
theorem sc_Lalike : FnScope n_Lalike ["_law_found", "_law_due_here"] (defScope s_Lalike) := ⟨rfl, rfl, rfl, by decide +kernel, rfl, by decide +kernel, by decide +kernel⟩
abbrev s_Lnumber : Stmt := topS 20
abbrev n_Lnumber : List Str := ["_law_signs_here", "_law_most", "_law_total", "_law_sign_here", "_law_at"]
theorem sc_Lnumber : FnScope n_Lnumber ["_law_signs_here", "_law_most"] (defScope s_Lnumber) := ⟨rfl, rfl, rfl, by decide +kernel, rfl, by decide +kernel, by decide +kernel⟩
abbrev s_Ldue : Stmt := topS 21
abbrev n_Ldue : List Str := ["_law_signs_here", "_law_gifts", "_law_word", "_law_halves", "_law_places", "_law_gift_here"]
theorem sc_Ldue : FnScope n_Ldue ["_law_signs_here"] (defScope s_Ldue) := ⟨rfl, rfl, rfl, by decide +kernel, rfl, by decide +kernel, by decide +kernel⟩
abbrev s_number_of : Stmt := topS 8
abbrev n_number_of : List Str := ["figures", "most", "sign"]
theorem sc_number_of : FnScope n_number_of ["figures", "most"] (defScope s_number_of) := ⟨rfl, rfl, rfl, by decide +kernel, rfl, by decide +kernel, by decide +kernel⟩
abbrev s_gift_of : Stmt := topS 9
abbrev n_gift_of : List Str := ["word", "ends", "colon", "tail", "head", "arrow", "behind", "giver", "taker", "amount"]
theorem sc_gift_of : FnScope n_gift_of ["word"] (defScope s_gift_of) := ⟨rfl, rfl, rfl, by decide +kernel, rfl, by decide +kernel, by decide +kernel⟩
abbrev s_read : Stmt := topS 10
abbrev n_read : List Str := ["text", "word"]
theorem sc_read : FnScope n_read ["text"] (defScope s_read) := ⟨rfl, rfl, rfl, by decide +kernel, rfl, by decide +kernel, by decide +kernel⟩
abbrev s_Lholds : Stmt := topS 23
abbrev n_Lholds : List Str := ["_law_signs_here", "_law_due_here", "_law_error", "_law_found", "e"]
theorem sc_Lholds : FnScope n_Lholds ["_law_signs_here"] (defScope s_Lholds) := ⟨rfl, rfl, rfl, by decide +kernel, rfl, by decide +kernel, by decide +kernel⟩
abbrev s_Lfigures : Stmt := topS 17
abbrev n_Lfigures : List Str := ["_law_cell", "_law_mixed", "_law_one", "_law_two", "_law_three"]
theorem sc_Lfigures : FnScope n_Lfigures ["_law_cell", "_law_mixed"] (defScope s_Lfigures) := ⟨rfl, rfl, rfl, by decide +kernel, rfl, by decide +kernel, by decide +kernel⟩
abbrev s_Lgift : Stmt := topS 14
abbrev n_Lgift : List Str := ["_law_cell", "_law_mixed", "_law_giver", "_law_taker", "_law_most", "_law_amount"]
theorem sc_Lgift : FnScope n_Lgift ["_law_cell"] (defScope s_Lgift) := ⟨rfl, rfl, rfl, by decide +kernel, rfl, by decide +kernel, by decide +kernel⟩
abbrev s_Lwritten : Stmt := topS 16
abbrev n_Lwritten : List Str := ["_law_gift_here"]
theorem sc_Lwritten : FnScope n_Lwritten ["_law_gift_here"] (defScope s_Lwritten) := ⟨rfl, rfl, rfl, by decide +kernel, rfl, by decide +kernel, by decide +kernel⟩
abbrev s_Lgood : Stmt := topS 18
abbrev n_Lgood : List Str := ["_law_cell", "_law_mixed", "_law_signs_here", "_law_other"]
theorem sc_Lgood : FnScope n_Lgood ["_law_cell", "_law_mixed"] (defScope s_Lgood) := ⟨rfl, rfl, rfl, by decide +kernel, rfl, by decide +kernel, by decide +kernel⟩
abbrev s_Lodd : Stmt := topS 15
abbrev n_Lodd : List Str := ["_law_cell", "_law_some"]
theorem sc_Lodd : FnScope n_Lodd ["_law_cell"] (defScope s_Lodd) := ⟨rfl, rfl, rfl, by decide +kernel, rfl, by decide +kernel, by decide +kernel⟩
abbrev s_Lsign : Stmt := topS 13
abbrev n_Lsign : List Str := ["_law_cell", "_law_some"]
theorem sc_Lsign : FnScope n_Lsign ["_law_cell"] (defScope s_Lsign) := ⟨rfl, rfl, rfl, by decide +kernel, rfl, by decide +kernel, by decide +kernel⟩
abbrev s_Lsigns : Stmt := topS 19
abbrev n_Lsigns : List Str := ["_law_cell", "_law_mixed", "_law_kind", "_law_signs_here", "_law_at"]
theorem sc_Lsigns : FnScope n_Lsigns ["_law_cell"] (defScope s_Lsigns) := ⟨rfl, rfl, rfl, by decide +kernel, rfl, by decide +kernel, by decide +kernel⟩
abbrev s_law : Stmt := topS 24
abbrev n_law : List Str := ["_law_script", "_law_cell"]
theorem sc_law : FnScope n_law ["_law_script"] (defScope s_law) := ⟨rfl, rfl, rfl, by decide +kernel, rfl, by decide +kernel, by decide +kernel⟩
/-- built-in names that are still so -/
structure Bl (mg : Str → Option Value) : Prop where
  ValueError_ : mg "ValueError" = none
  bool_ : mg "bool" = none
  int_ : mg "int" = none
  isinstance_ : mg "isinstance" = none
  len_ : mg "len" = none
  list_ : mg "list" = none
  range_ : mg "range" = none
  str_ : mg "str" = none
  tuple_ : mg "tuple" = none
/-! ### the script's cells -/
def cellAt (ns : List Int) (k : Int) : Int := if k < (ns.length : Int) then ns.getD k.toNat 0 else 0
def AllBd (n : Nat) (ns : List Int) : Prop := ∀ z ∈ ns, Bd n z
theorem bd0 (n : Nat) : Bd n 0 := Nat.pow_pos (by decide)
theorem AllBd.get {n : Nat} {ns : List Int} (h : AllBd n ns) (k : Nat) : Bd n (ns.getD k 0) := by
  rw [List.getD_eq_getElem?_getD]
  cases e : ns[k]? with
  | none => exact bd0 n
  | some z => exact h z (List.mem_of_getElem? e)
theorem AllBd.mono {n m : Nat} {ns : List Int} (h : AllBd n ns) (k : n ≤ m) : AllBd m ns := fun z hz => (h z hz).mono k
theorem AllBd.snoc {n : Nat} {ns : List Int} {z : Int} (h : AllBd n ns) (hz : Bd n z) : AllBd n (ns ++ [z]) := fun y hy => by
  rcases List.mem_append.mp hy with h1 | h1
  · exact h y h1
  · rw [List.mem_singleton.mp h1]
    exact hz
theorem AllBd.cell {n : Nat} {ns : List Int} (h : AllBd n ns) (k : Int) : Bd n (cellAt ns k) := by
  unfold cellAt
  split
  · exact h.get _
  · exact bd0 n
theorem at_getD {ns : List Int} {k : Int} (h0 : 0 ≤ k) (h : k < (ns.length : Int)) : atI (ns.map V.int) k = some (.int (ns.getD k.toNat 0)) := by
  have hk : k.toNat < ns.length := by omega
  have e : k = (k.toNat : Int) := by omega
  rw [e]
  exact Pm.atI_map (by rw [List.getD_eq_getElem?_getD, Int.toNat_natCast, List.getElem?_eq_getElem hk]; rfl)
/-- the script's k-th cell, or nought -/
def spLcell_at (K : PySem.W.Frag) : Sp := fun vs H Q _ => ∃ (a : Addr) (ns : List Int) (k : Int), vs = [.ref a, .int k] ∧ SqL K H a (ns.map V.int) ∧ 0 ≤ k ∧ KQ Q (.int (cellAt ns k)) H
theorem k_Lcell_at {K : PySem.W.Frag} {H : Hp} {P : V → Hp → Prop} {a : Addr} {ns : List Int} {k : Int} (h : SqL K H a (ns.map V.int)) (h0 : 0 ≤ k) (hp : P (.int (cellAt ns k)) H) : SpK (spLcell_at K) [.ref a, .int k] H P := fun _ H1 e Q q =>
  ⟨a, ns, k, rfl, ex_l e h, h0, fun H2 e2 => q _ _ ⟨H, e.trans e2, hp⟩⟩
theorem ixN_at {n : Nat} {k : Int} (h0 : 0 ≤ k) (h : k < (n : Int)) : ixN n k = some k.toNat := by
  unfold ixN
  rw [if_pos h0, if_pos h]
theorem map_set_int (ns : List Int) (i : Nat) (z : Int) : (ns.map V.int).set i (V.int z) = (ns.set i z).map V.int := List.map_set.symm
theorem refs_at {gs : List Addr} {i : Nat} {x : V} (h : (gs.map V.ref)[i]? = some x) : ∃ g, gs[i]? = some g ∧ x = V.ref g := by
  rw [List.getElem?_map] at h
  cases e : gs[i]? with
  | none => rw [e] at h; cases h
  | some z => rw [e] at h; exact ⟨z, rfl, (Option.some.inj h).symm⟩
theorem List.drop_eq_getElem_cons_of {α : Type} {l : List α} {i : Nat} {z : α} (h : l[i]? = some z) : l.drop i = z :: l.drop (i + 1) := by
  obtain ⟨h1, rfl⟩ := List.getElem?_eq_some_iff.mp h
  exact List.drop_eq_getElem_cons h1

/-- sizes -/
local macro_rules | `(tactic| walk_at "bd") => `(tactic| first
  | assumption
  | ((with_reducible refine Bd.add (n := ?n1) (m := ?m1) ?h1 ?h2); (case h1 => walk_at "bd"); (case h2 => walk_at "bd"))
  | ((with_reducible refine Bd.sub (n := ?n1) (m := ?m1) ?h1 ?h2); (case h1 => walk_at "bd"); (case h2 => walk_at "bd"))
  | ((with_reducible refine Bd.mul (n := ?n1) (m := ?m1) ?h1 ?h2); (case h1 => walk_at "bd"); (case h2 => walk_at "bd"))
  | ((with_reducible refine Bd.mod ?h1 ?h2); (case h1 => walk_at "bd"); (case h2 => first | decide | omega))
  | ((with_reducible refine Bd.div ?h1); (case h1 => walk_at "bd"))
  | exact AllBd.get (by assumption) _
  | exact AllBd.cell (by assumption) _
  | exact bd_lit _)
local macro_rules | `(tactic| walk_at "side") => `(tactic| first
  | ((with_reducible refine Bd.mulX (n := ?bn) (m := ?bm) ?b1 ?b2 ?sl); (case b1 => walk_at "bd"); (case b2 => walk_at "bd"); (case sl => decide +kernel))
  | (show (_ : Int) < _; decide)
  | (show (_ : Int) < _ ∧ _; decide)
  | (show (_ : Int) ≤ _ ∧ _; decide)
  | (show (_ : Int) < _; omega)
  | (show (_ : Int) < _ ∧ _; omega))
/-- one step of the calculus, by the head -/
local macro_rules | `(tactic| walk_at "k") => `(tactic| first
  | ((with_reducible refine k_var (v := ?kw) ?kv ?_); (case kv => exact rfl))
  | with_reducible refine k_c ?_
  | with_reducible refine k_op ?_
  | with_reducible refine k_cb ?_
  | with_reducible refine k_cons ?_
  | with_reducible refine k_nil ?_
  | with_reducible refine k_call ?_
  | with_reducible refine r_I0 ?_
  | ((with_reducible refine r_I' ?_ ?rc); (case rc => walk_at "side"))
  | with_reducible refine kt_test ?_
  | with_reducible refine kt_B ?_
  | with_reducible refine kt_or ?_
  | with_reducible refine kt_and ?_
  | with_reducible refine kt_not ?_
  | with_reducible refine k_tup ?_
  | with_reducible refine k_lst ?_
  | with_reducible refine k_ckw ?_
  | with_reducible refine k_bm ?_
  | with_reducible refine k_bm0 ?_
  | with_reducible refine k_sl ?_
  | with_reducible refine k_part ?_
  | with_reducible refine k_nopart ?_
  | with_reducible refine k_un ?_
  | with_reducible refine k_chain ?_
  | with_reducible refine k_andV ?_
  | with_reducible refine k_orV ?_
  | with_reducible refine k_notV ?_
  | with_reducible refine r_neg ?_
  | with_reducible refine r_eqI ?_
  | with_reducible refine r_neI ?_
  | with_reducible refine ⟨_, rfl, ?_⟩)
/-- a statement -/
local macro_rules | `(tactic| walk_at "s") => `(tactic| first
  | with_reducible refine gs_asg ?_
  | with_reducible refine gs_drop ?_
  | with_reducible refine gs_when ?_
  | with_reducible refine gs_if ?_
  | with_reducible refine gs_par ?_
  | with_reducible refine gs_set ?_
  | with_reducible refine g2_asg ?_
  | with_reducible refine g2_drop ?_
  | with_reducible refine g2_next ?_
  | with_reducible refine g2_par ?_
  | with_reducible refine g2_set ?_
  | with_reducible refine g1_asg ?_
  | with_reducible refine g1_drop ?_
  | with_reducible refine g1_ret ?_
  | with_reducible refine g1_if ?_
  | with_reducible refine g1_par ?_
  | with_reducible refine g1_set ?_)
local macro_rules | `(tactic| walk_at "ks") => `(tactic| repeat walk_at "k")

/-- what the top says of the refusals -/
structure TxtE (K : PySem.W.Frag) (mg : Str → Option Value) (C_PurseError C_NoGift C_Unlike C_Gap C_NoText : Addr) : Prop where
  g_PurseError : mg "PurseError" = some (.ref C_PurseError)
  g_NoGift : mg "NoGift" = some (.ref C_NoGift)
  g_Unlike : mg "Unlike" = some (.ref C_Unlike)
  g_Gap : mg "Gap" = some (.ref C_Gap)
  g_NoText : mg "NoText" = some (.ref C_NoText)
  x_NoText : PySem.W.excIn K C_NoText [.type "ValueError", .type "Exception", .type "BaseException", .type "object"] "ValueError.__new__" = true
  k_NoText : PySem.W.keepIn K (.ref C_NoText) = true
  b_NoText : PySem.W.subIn K (.ref C_NoText) (.type "BaseException") = some true
  t_NoText : PySem.W.typeIn K (.ref C_NoText) = some (.type "type")
  e_PurseError : PySem.W.exmOne K (.ref C_NoText) (.ref C_PurseError) = some true
  CE : ExcC K C_NoText
  n_NoText : PySem.W.kitOne K (.ref C_NoText) (.ref C_NoText) = some true
  n_ValueError : PySem.W.kitOne K (.ref C_NoText) (.type "ValueError") = some true
  n_NoGift : PySem.W.kitOne K (.ref C_NoText) (.ref C_NoGift) = some false
  n_Unlike : PySem.W.kitOne K (.ref C_NoText) (.ref C_Unlike) = some false
  n_Gap : PySem.W.kitOne K (.ref C_NoText) (.ref C_Gap) = some false
structure TxtX (K : PySem.W.Frag) (mg : Str → Option Value) (C_PurseError C_NoGift C_Unlike C_Gap C_NoText : Addr) (tok : Tok) : Prop extends TxtE K mg C_PurseError C_NoGift C_Unlike C_Gap C_NoText where
  g_FIGURES : mg "FIGURES" = some (.str (SX.S Pn.fig) tok)
  cl : (PySem.W.clsIn K C_NoText).isSome = true

/-- a gift's tuple at an address -/
def TupG (K : PySem.W.Frag) (H : Hp) (a : Addr) (z : Pg.Gift) : Prop := SqT K H a [.int z.1, .int z.2.1, .int z.2.2]
def spfits (K : PySem.W.Frag) : Sp := fun vs H Q _ => ∃ (a b : Addr) (ns : List Int) (z : Pg.Gift), vs = [.ref a, .ref b] ∧ SqL K H a (ns.map V.int) ∧ TupG K H b z ∧ KQ Q (.bl (Pg.fitsB ns z.1 z.2.1 z.2.2)) H
theorem k_fits {K : PySem.W.Frag} {H : Hp} {P : V → Hp → Prop} {a b : Addr} {ns : List Int} {z : Pg.Gift} (h : SqL K H a (ns.map V.int)) (hz : TupG K H b z) (hp : P (.bl (Pg.fitsB ns z.1 z.2.1 z.2.2)) H) : SpK (spfits K) [.ref a, .ref b] H P := fun _ H1 e Q q =>
  ⟨a, b, ns, z, rfl, ex_l e h, ex_t e hz, fun H2 e2 => q _ _ ⟨H, e.trans e2, hp⟩⟩
def spdone (K : PySem.W.Frag) (C : Addr) : Sp := fun vs H Q E => ∃ (a b : Addr) (ns : List Int) (z : Pg.Gift), vs = [.ref a, .ref b] ∧ SqL K H a (ns.map V.int) ∧ TupG K H b z ∧
  (¬ Pg.Fits ns z.1 z.2.1 z.2.2 → KE E (.ref C) none H) ∧ (Pg.Fits ns z.1 z.2.1 z.2.2 → ∀ p, H p = none → KQ Q (.ref p) (upd H p (.lst ((Pg.done ns z.1 z.2.1 z.2.2).map V.int))))
theorem k_done {K : PySem.W.Frag} {C : Addr} {E : XK} {H : Hp} {P : V → Hp → Prop} {a b : Addr} {ns : List Int} {z : Pg.Gift} (h : SqL K H a (ns.map V.int)) (hz : TupG K H b z) (he : ¬ Pg.Fits ns z.1 z.2.1 z.2.2 → KE E (.ref C) none H)
    (hp : Pg.Fits ns z.1 z.2.1 z.2.2 → ∀ p, H p = none → P (.ref p) (upd H p (.lst ((Pg.done ns z.1 z.2.1 z.2.2).map V.int)))) : Kc (fun H Q => spdone K C [.ref a, .ref b] H Q E) H P := fun H1 e Q q =>
  ⟨a, b, ns, z, rfl, ex_l e h, ex_t e hz, fun n => (he n).up e, fun y p np H2 e2 => q _ _ ⟨_, (Ex.updm e).trans e2, hp y p (fresh_back e np)⟩⟩
/-- a list of gifts -/
structure GfL (K : PySem.W.Frag) (H : Hp) (a : Addr) (gs : List Addr) (Gs : List Pg.Gift) : Prop where
  lst : SqL K H a (gs.map V.ref)
  len : gs.length = Gs.length
  tup : ∀ (i : Nat) g z, gs[i]? = some g → Gs[i]? = some z → TupG K H g z
theorem GfL.up {K : PySem.W.Frag} {H H' : Hp} {a : Addr} {gs : List Addr} {Gs : List Pg.Gift} (h : GfL K H a gs Gs) (e : Ex H H') : GfL K H' a gs Gs := ⟨ex_l e h.lst, h.len, fun i g z x y => ex_t e (h.tup i g z x y)⟩
def spwalked (K : PySem.W.Frag) (C : Addr) : Sp := fun vs H Q E => ∃ (a b : Addr) (ns : List Int) (gs : List Addr) (Gs : List Pg.Gift), vs = [.ref a, .ref b] ∧ SqL K H a (ns.map V.int) ∧ GfL K H b gs Gs ∧
  (Pg.walk ns Gs = none → KE E (.ref C) none H) ∧ (∀ ms, Pg.walk ns Gs = some ms → ∀ p, H p = none → KQ Q (.ref p) (upd H p (.lst (ms.map V.int))))
theorem k_walked {K : PySem.W.Frag} {C : Addr} {E : XK} {H : Hp} {P : V → Hp → Prop} {a b : Addr} {ns : List Int} {gs : List Addr} {Gs : List Pg.Gift} (h : SqL K H a (ns.map V.int)) (hz : GfL K H b gs Gs) (he : Pg.walk ns Gs = none → KE E (.ref C) none H)
    (hp : ∀ ms, Pg.walk ns Gs = some ms → ∀ p, H p = none → P (.ref p) (upd H p (.lst (ms.map V.int)))) : Kc (fun H Q => spwalked K C [.ref a, .ref b] H Q E) H P := fun H1 e Q q =>
  ⟨a, b, ns, gs, Gs, rfl, ex_l e h, hz.up e, fun n => (he n).up e, fun ms y p np H2 e2 => q _ _ ⟨_, (Ex.updm e).trans e2, hp ms y p (fresh_back e np)⟩⟩

theorem snoc_at {α : Type} {l : List α} {x : α} {i : Nat} {y : α} (h : (l ++ [x])[i]? = some y) : (i < l.length ∧ l[i]? = some y) ∨ (i = l.length ∧ y = x) := by
  by_cases c : i < l.length
  · rw [List.getElem?_append_left c] at h
    exact .inl ⟨c, h⟩
  · have hi : i = l.length := by
      have h1 := (List.getElem?_eq_some_iff.mp h).1
      rw [List.length_append] at h1
      simp at h1
      omega
    subst hi
    rw [List.getElem?_append_right (Nat.le_refl _), Nat.sub_self] at h
    exact .inr ⟨rfl, (Option.some.inj h).symm⟩
theorem dpa_gifts {K : PySem.W.Frag} {H : Hp} : ∀ {gs : List Addr} {Gs : List Pg.Gift}, gs.length = Gs.length → (∀ (i : Nat) g z, gs[i]? = some g → Gs[i]? = some z → TupG K H g z) → DpAll K H (gs.map V.ref) (Gs.map fun z => PyData.tuple [.int z.1, .int z.2.1, .int z.2.2])
  | [], [], _, _ => .nil
  | g :: gs, z :: Gs, h, k => .cons (.tup (k 0 g z rfl rfl) (.cons (.int _) (.cons (.int _) (.cons (.int _) .nil)))) (dpa_gifts (by simpa using h) fun i x y hx hy => k (i + 1) x y hx hy)
  | [], _ :: _, h, _ => by cases h
  | _ :: _, [], h, _ => by cases h
theorem dp_gifts {K : PySem.W.Frag} {H : Hp} {a : Addr} {gs : List Addr} {Gs : List Pg.Gift} (h : GfL K H a gs Gs) : Dp K H (.ref a) (.list (Gs.map fun z => PyData.tuple [.int z.1, .int z.2.1, .int z.2.2])) := .lst h.lst (dpa_gifts h.len h.tup)
theorem lay_gifts : ∀ Gs : List Pg.Gift, PyData.canLayAll0 (Gs.map fun z => PyData.tuple [.int z.1, .int z.2.1, .int z.2.2]) = true
  | [] => rfl
  | z :: Gs => by
    show (PyData.canLay0 (.tuple [.int z.1, .int z.2.1, .int z.2.2]) && PyData.canLayAll0 (Gs.map fun z => PyData.tuple [.int z.1, .int z.2.1, .int z.2.2])) = true
    rw [lay_gifts Gs]
    rfl
theorem dep_gifts : ∀ Gs : List Pg.Gift, PyData.depthAll (Gs.map fun z => PyData.tuple [.int z.1, .int z.2.1, .int z.2.2]) ≤ 1
  | [] => Nat.zero_le _
  | z :: Gs => by
    show max (PyData.depth (.tuple [.int z.1, .int z.2.1, .int z.2.2])) (PyData.depthAll (Gs.map fun z => PyData.tuple [.int z.1, .int z.2.1, .int z.2.2])) ≤ 1
    exact Nat.max_le.mpr ⟨(by decide : (1 : Nat) ≤ 1), dep_gifts Gs⟩
theorem sh_gifts (Gs : List Pg.Gift) : SeqAt.shaped (.list (Gs.map fun z => PyData.tuple [.int z.1, .int z.2.1, .int z.2.2])) = true := by
  show (PyData.canLayAll0 (Gs.map fun z => PyData.tuple [.int z.1, .int z.2.1, .int z.2.2]) && decide (PyData.depthAll (Gs.map fun z => PyData.tuple [.int z.1, .int z.2.1, .int z.2.2]) + 1 ≤ 64)) = true
  have h := dep_gifts Gs
  rw [lay_gifts, decide_eq_true (by omega)]
  rfl

theorem sl_to {H : Hp} {P : V → Hp → Prop} {l : List Nat} {i : Int} (h0 : 0 ≤ i) (hl : l.length ≤ 100000) (hp : P (.str (SX.S (l.take i.toNat))) H) : Kc (C8.rSlX (.str (SX.S l)) none (some i)) H P := fun H1 e Q k =>
  ⟨SX.S l, rfl, by rw [SX.S_len]; exact sz_of hl, by rw [SX.slice_to h0]; exact k _ _ ⟨H, e, hp⟩⟩
theorem sl_from {H : Hp} {P : V → Hp → Prop} {l : List Nat} {i : Int} (h0 : 0 ≤ i) (hl : l.length ≤ 100000) (hp : P (.str (SX.S (l.drop i.toNat))) H) : Kc (C8.rSlX (.str (SX.S l)) (some i) none) H P := fun H1 e Q k =>
  ⟨SX.S l, rfl, by rw [SX.S_len]; exact sz_of hl, by rw [SX.slice_from h0]; exact k _ _ ⟨H, e, hp⟩⟩
theorem m_find {H : Hp} {P : V → Hp → Prop} {c : Nat} {t : Str} (ht : t = SX.S Pn.fig) (hp : P (.int (if c ∈ Pn.fig then ((c - 48 : Nat) : Int) else -1)) H) : Kc ((fun (x : V) (xs : List V) (H : Hp) (Q : VK) => ∃ a b, x = .str a ∧ xs = [.str b] ∧ Q (.int (Txt.find a b)) H) (.str t) [.str (SX.S [c])]) H P := fun H1 e Q k => by
  subst ht
  refine ⟨_, _, rfl, rfl, ?_⟩
  rw [Pz.find_fig]
  exact k _ _ ⟨H, e, hp⟩
/-- a list of gifts that is one's own -/
structure GfH (H : Hp) (a : Addr) (gs : List Addr) (Gs : List Pg.Gift) : Prop where
  lst : H a = some (.lst (gs.map V.ref))
  len : gs.length = Gs.length
  tup : ∀ (i : Nat) g z, gs[i]? = some g → Gs[i]? = some z → H g = some (.tup [.int z.1, .int z.2.1, .int z.2.2])
theorem GfH.up {H H' : Hp} {a : Addr} {gs : List Addr} {Gs : List Pg.Gift} (h : GfH H a gs Gs) (e : Ex H H') : GfH H' a gs Gs := ⟨e _ _ h.lst, h.len, fun i g z x y => e _ _ (h.tup i g z x y)⟩
theorem GfH.gfl {K : PySem.W.Frag} {H : Hp} {a : Addr} {gs : List Addr} {Gs : List Pg.Gift} (h : GfH H a gs Gs) : GfL K H a gs Gs := ⟨sq_of h.lst, h.len, fun i g z x y => st_of (h.tup i g z x y)⟩
theorem GfH.snoc {H H' : Hp} {a b q : Addr} {gs : List Addr} {Gs : List Pg.Gift} {z : Pg.Gift} (h : GfH H a gs Gs) (hb : H' b = some (.lst ((gs ++ [q]).map V.ref))) (ht : ∀ g u, H g = some (.tup u) → H' g = some (.tup u)) (hq : H' q = some (.tup [.int z.1, .int z.2.1, .int z.2.2])) : GfH H' b (gs ++ [q]) (Gs ++ [z]) := by
  refine ⟨hb, by rw [List.length_append, List.length_append, h.len]; rfl, fun i g u hg hu => ?_⟩
  rcases snoc_at hg with ⟨h1, h2⟩ | ⟨h1, h2⟩
  · rw [List.getElem?_append_left (by rw [← h.len]; exact h1)] at hu
    exact ht _ _ (h.tup i g u h2 hu)
  · rw [List.getElem?_append_right (by rw [← h.len]; omega), h1, h.len, Nat.sub_self] at hu
    have e1 : z = u := Option.some.inj hu
    subst e1 h2
    exact hq
def spnumber_of (K : PySem.W.Frag) (C : Addr) : Sp := fun vs H Q E => ∃ (l : List Nat) (m : Nat), vs = [.str (SX.S l), .int (m : Int)] ∧ l.length ≤ 1000 ∧ m ≤ 61 ∧ (Pz.num l m = none → KE E (.ref C) none H) ∧ ∀ n : Nat, Pz.num l m = some n → KQ Q (.int (n : Int)) H
theorem k_number_of {K : PySem.W.Frag} {C : Addr} {E : XK} {H : Hp} {P : V → Hp → Prop} {l : List Nat} {m : Nat} (h : l.length ≤ 1000) (hm : m ≤ 61) (he : Pz.num l m = none → KE E (.ref C) none H) (hp : ∀ n : Nat, Pz.num l m = some n → P (.int (n : Int)) H) : Kc (fun H Q => spnumber_of K C [.str (SX.S l), .int (m : Int)] H Q E) H P := fun H1 e Q q =>
  ⟨l, m, rfl, h, hm, fun z => (he z).up e, fun n z H2 e2 => q _ _ ⟨_, e.trans e2, hp n z⟩⟩
def spgift_of (K : PySem.W.Frag) (C : Addr) : Sp := fun vs H Q E => ∃ w : List Nat, vs = [.str (SX.S w)] ∧ w.length ≤ 1000 ∧ (Pz.gw w = none → KE E (.ref C) none H) ∧ ∀ z, Pz.gw w = some z → ∀ p H', Ex H H' → H p = none → H' p = some (.tup [.int z.1, .int z.2.1, .int z.2.2]) → KQ Q (.ref p) H'
theorem k_gift_of {K : PySem.W.Frag} {C : Addr} {E : XK} {H : Hp} {P : V → Hp → Prop} {w : List Nat} (h : w.length ≤ 1000) (he : Pz.gw w = none → KE E (.ref C) none H) (hp : ∀ z, Pz.gw w = some z → ∀ p H', Ex H H' → H p = none → H' p = some (.tup [.int z.1, .int z.2.1, .int z.2.2]) → P (.ref p) H') : Kc (fun H Q => spgift_of K C [.str (SX.S w)] H Q E) H P := fun H1 e Q q =>
  ⟨w, rfl, h, fun z => (he z).up e, fun z hz p H' e' np hh H2 e2 => q _ _ ⟨H', e2, hp z hz p H' (e.trans e') (fresh_back e np) hh⟩⟩
def spread (K : PySem.W.Frag) (C : Addr) : Sp := fun vs H Q E => ∃ l : List Nat, vs = [.str (SX.S l)] ∧ l.length ≤ 1000 ∧ (Pz.rd l = none → KE E (.ref C) none H) ∧ ∀ Gs, Pz.rd l = some Gs → ∀ p fs H', Ex H H' → GfH H' p fs Gs → KQ Q (.ref p) H'
theorem k_read {K : PySem.W.Frag} {C : Addr} {E : XK} {H : Hp} {P : V → Hp → Prop} {l : List Nat} (h : l.length ≤ 1000) (he : Pz.rd l = none → KE E (.ref C) none H) (hp : ∀ Gs, Pz.rd l = some Gs → ∀ p fs H', Ex H H' → GfH H' p fs Gs → P (.ref p) H') : Kc (fun H Q => spread K C [.str (SX.S l)] H Q E) H P := fun H1 e Q q =>
  ⟨l, rfl, h, fun z => (he z).up e, fun Gs hz p fs H' e' hh H2 e2 => q _ _ ⟨H', e2, hp Gs hz p fs H' (e.trans e') hh⟩⟩
def spLwhole (K : PySem.W.Frag) : Sp := fun vs H Q _ => ∃ (i : Int), vs = [.int i] ∧ KQ Q (.bl true) H
theorem k_Lwhole {K : PySem.W.Frag} {H : Hp} {P : V → Hp → Prop} {i : Int} (hp : P (.bl true) H) : SpK (spLwhole K) [.int i] H P := fun _ H1 e Q q => ⟨i, rfl, fun H2 e2 => q _ _ ⟨_, e.trans e2, hp⟩⟩
def spLsign (K : PySem.W.Frag) : Sp := fun vs H Q _ => ∃ (i : Int), vs = [.int i] ∧ ∀ c : Nat, KQ Q (.str (SX.S [c])) H
theorem k_Lsign {K : PySem.W.Frag} {H : Hp} {P : V → Hp → Prop} {i : Int} (hp : ∀ c : Nat, P (.str (SX.S [c])) H) : SpK (spLsign K) [.int i] H P := fun _ H1 e Q q => ⟨i, rfl, fun c H2 e2 => q _ _ ⟨_, e.trans e2, hp c⟩⟩
def spLgift (K : PySem.W.Frag) : Sp := fun vs H Q _ => ∃ (c : Int), vs = [.int c] ∧ Bd 1048580 c ∧ ∀ z p H', Pn.Gd z → Ex H H' → H p = none → H' p = some (.tup [.int z.1, .int z.2.1, .int z.2.2]) → KQ Q (.ref p) H'
theorem k_Lgift {K : PySem.W.Frag} {H : Hp} {P : V → Hp → Prop} {c : Int} (hc : Bd 1048580 c) (hp : ∀ z p H', Pn.Gd z → Ex H H' → H p = none → H' p = some (.tup [.int z.1, .int z.2.1, .int z.2.2]) → P (.ref p) H') : SpK (spLgift K) [.int c] H P := fun _ H1 e Q q =>
  ⟨c, rfl, hc, fun z p H' hg e' np hh H2 e2 => q _ _ ⟨H', e2, hp z p H' hg (e.trans e') (fresh_back e np) hh⟩⟩
def spLodd (K : PySem.W.Frag) : Sp := fun vs H Q _ => ∃ (c : Int), vs = [.int c] ∧ ∀ l H', Ex H H' → l.length ≤ 20 → KQ Q (.str (SX.S l)) H'
theorem k_Lodd {K : PySem.W.Frag} {H : Hp} {P : V → Hp → Prop} {c : Int} (hp : ∀ l H', Ex H H' → l.length ≤ 20 → P (.str (SX.S l)) H') : SpK (spLodd K) [.int c] H P := fun _ H1 e Q q =>
  ⟨c, rfl, fun l H' e' hl H2 e2 => q _ _ ⟨H', e2, hp l H' (e.trans e') hl⟩⟩
def spLwritten (K : PySem.W.Frag) : Sp := fun vs H Q _ => ∃ (a : Addr) (z : Pg.Gift), vs = [.ref a] ∧ SqT K H a [.int z.1, .int z.2.1, .int z.2.2] ∧ Pn.Gd z ∧ ∀ l : List Nat, 0 < l.length → l.length ≤ 70 → KQ Q (.str (SX.S l)) H
theorem k_Lwritten {K : PySem.W.Frag} {H : Hp} {P : V → Hp → Prop} {a : Addr} {z : Pg.Gift} (h : SqT K H a [.int z.1, .int z.2.1, .int z.2.2]) (hg : Pn.Gd z) (hp : ∀ l : List Nat, 0 < l.length → l.length ≤ 70 → P (.str (SX.S l)) H) : SpK (spLwritten K) [.ref a] H P := fun _ H1 e Q q =>
  ⟨a, z, rfl, ex_t e h, hg, fun l h0 hl H2 e2 => q _ _ ⟨_, e.trans e2, hp l h0 hl⟩⟩
def spLfigures (K : PySem.W.Frag) : Sp := fun vs H Q _ => ∃ (c m : Int), vs = [.int c, .int m] ∧ Bd 1048576 c ∧ ∀ l H', Ex H H' → l.length ≤ 400 → KQ Q (.str (SX.S l)) H'
theorem k_Lfigures {K : PySem.W.Frag} {H : Hp} {P : V → Hp → Prop} {c m : Int} (hc : Bd 1048576 c) (hp : ∀ l H', Ex H H' → l.length ≤ 400 → P (.str (SX.S l)) H') : SpK (spLfigures K) [.int c, .int m] H P := fun _ H1 e Q q =>
  ⟨c, m, rfl, hc, fun l H' e' hl H2 e2 => q _ _ ⟨H', e2, hp l H' (e.trans e') hl⟩⟩
def spLgood (K : PySem.W.Frag) : Sp := fun vs H Q _ => ∃ (c m : Int), vs = [.int c, .int m] ∧ Bd 1048576 c ∧ ∀ l H', Ex H H' → 0 < l.length → l.length ≤ 150 → KQ Q (.str (SX.S l)) H'
theorem k_Lgood {K : PySem.W.Frag} {H : Hp} {P : V → Hp → Prop} {c m : Int} (hc : Bd 1048576 c) (hp : ∀ l H', Ex H H' → 0 < l.length → l.length ≤ 150 → P (.str (SX.S l)) H') : SpK (spLgood K) [.int c, .int m] H P := fun _ H1 e Q q =>
  ⟨c, m, rfl, hc, fun l H' e' h0 hl H2 e2 => q _ _ ⟨H', e2, hp l H' (e.trans e') h0 hl⟩⟩
def spLsigns (K : PySem.W.Frag) : Sp := fun vs H Q _ => ∃ (c : Int), vs = [.int c] ∧ Bd 1048576 c ∧ ∀ l H', Ex H H' → l.length ≤ 400 → KQ Q (.str (SX.S l)) H'
theorem k_Lsigns {K : PySem.W.Frag} {H : Hp} {P : V → Hp → Prop} {c : Int} (hc : Bd 1048576 c) (hp : ∀ l H', Ex H H' → l.length ≤ 400 → P (.str (SX.S l)) H') : SpK (spLsigns K) [.int c] H P := fun _ H1 e Q q =>
  ⟨c, rfl, hc, fun l H' e' hl H2 e2 => q _ _ ⟨H', e2, hp l H' (e.trans e') hl⟩⟩
def spLnumber (K : PySem.W.Frag) : Sp := fun vs H Q _ => ∃ (l : List Nat) (m : Nat), vs = [.str (SX.S l), .int (m : Int)] ∧ l.length ≤ 1000 ∧ m ≤ 61 ∧ KQ Q (.int (Pz.numI l m)) H
theorem k_Lnumber {K : PySem.W.Frag} {H : Hp} {P : V → Hp → Prop} {l : List Nat} {m : Nat} (h : l.length ≤ 1000) (hm : m ≤ 61) (hp : P (.int (Pz.numI l m)) H) : SpK (spLnumber K) [.str (SX.S l), .int (m : Int)] H P := fun _ H1 e Q q =>
  ⟨l, m, rfl, h, hm, fun H2 e2 => q _ _ ⟨_, e.trans e2, hp⟩⟩
def spLdue (K : PySem.W.Frag) : Sp := fun vs H Q _ => ∃ l : List Nat, vs = [.str (SX.S l)] ∧ l.length ≤ 1000 ∧ (Pz.rd l = none → ∀ H', Ex H H' → KQ Q .non H') ∧ ∀ Gs, Pz.rd l = some Gs → ∀ p fs H', Ex H H' → GfH H' p fs Gs → KQ Q (.ref p) H'
theorem k_Ldue {K : PySem.W.Frag} {H : Hp} {P : V → Hp → Prop} {l : List Nat} (h : l.length ≤ 1000) (hn : Pz.rd l = none → ∀ H', Ex H H' → P .non H') (hp : ∀ Gs, Pz.rd l = some Gs → ∀ p fs H', Ex H H' → GfH H' p fs Gs → P (.ref p) H') : SpK (spLdue K) [.str (SX.S l)] H P := fun _ H1 e Q q =>
  ⟨l, rfl, h, fun z H' e' H2 e2 => q _ _ ⟨H', e2, hn z H' (e.trans e')⟩, fun Gs hz p fs H' e' hh H2 e2 => q _ _ ⟨H', e2, hp Gs hz p fs H' (e.trans e') hh⟩⟩
def spLalike (K : PySem.W.Frag) : Sp := fun vs H Q _ => ∃ (a b : Addr) (fs gs : List Addr) (Gs : List Pg.Gift), vs = [.ref a, .ref b] ∧ GfH H a fs Gs ∧ GfL K H b gs Gs ∧ Gs.length ≤ 2000 ∧ KQ Q (.bl true) H
theorem k_Lalike {K : PySem.W.Frag} {H : Hp} {P : V → Hp → Prop} {a b : Addr} {fs gs : List Addr} {Gs : List Pg.Gift} (h1 : GfH H a fs Gs) (h2 : GfL K H b gs Gs) (hl : Gs.length ≤ 2000) (hp : P (.bl true) H) : SpK (spLalike K) [.ref a, .ref b] H P := fun _ H1 e Q q =>
  ⟨a, b, fs, gs, Gs, rfl, h1.up e, h2.up e, hl, fun H2 e2 => q _ _ ⟨_, e.trans e2, hp⟩⟩
def spLholds (K : PySem.W.Frag) : Sp := fun vs H Q _ => ∃ l : List Nat, vs = [.str (SX.S l)] ∧ l.length ≤ 1000 ∧ ∀ H', Ex H H' → KQ Q (.bl true) H'
theorem k_Lholds {K : PySem.W.Frag} {H : Hp} {P : V → Hp → Prop} {l : List Nat} (h : l.length ≤ 1000) (hp : ∀ H', Ex H H' → P (.bl true) H') : SpK (spLholds K) [.str (SX.S l)] H P := fun _ H1 e Q q =>
  ⟨l, rfl, h, fun H' e' H2 e2 => q _ _ ⟨H', e2, hp H' (e.trans e')⟩⟩
def spLaw (K : PySem.W.Frag) : Sp := fun vs H Q _ => ∃ (a : Addr) (ns : List Int), vs = [.ref a] ∧ SqL K H a (ns.map V.int) ∧ ns.length ≤ 63 ∧ (∀ z ∈ ns, Builtin.Int.intBits z ≤ 1048576) ∧ ∀ H', Q (.bl true) H'
theorem r_addAny {a b : Str} {H : Hp} {P : V → Hp → Prop} (hz : a.length + b.length ≤ 100000) (h : P (.str (a ++ b)) H) : RK (fun x y H Q => ∃ i j, x = .str i ∧ y = .str j ∧ i.length + j.length ≤ sizeLine ∧ Q (.str (i ++ j)) H) (.str a) (.str b) H P := fun H1 e Q k =>
  ⟨a, b, rfl, rfl, sz_of hz, k _ _ ⟨H, e, h⟩⟩
theorem r_ixAny {z : Str} {i : Int} {n : Nat} {H : Hp} {P : V → Hp → Prop} (hz : z.length = n) (hn : n ≤ 1000) (h0 : 0 ≤ i) (h1 : i < (n : Int)) (hp : ∀ c, P (.str (SX.S [c])) H) : RK rIxS (.str z) (.int i) H P := by
  have e : (z.cps.toList).length = n := by rw [← hz]; exact Array.length_toList
  rw [← SX.S_tl z]
  obtain ⟨j, rfl⟩ : ∃ j : Nat, i = (j : Int) := ⟨i.toNat, by omega⟩
  exact r_ixS (c := z.cps.toList[j]'(by omega)) (by omega) (atI_nat (List.getElem?_eq_getElem (by omega))) (hp _)
def chk : V → Bool
  | .str z => decide (z.length ≤ 20)
  | _ => false
theorem chk_of {x : V} (h : chk x = true) : ∃ l : List Nat, x = .str (SX.S l) ∧ l.length ≤ 20 := by
  cases x with
  | str z => exact ⟨z.cps.toList, by rw [SX.S_tl], by
      have h1 := of_decide_eq_true (show decide (z.length ≤ 20) = true from h)
      rw [Array.length_toList]
      exact h1⟩
  | _ => cases h
theorem k_lstW {σ : L2.St} {H : Hp} {tl : TA} {P : V → Hp → Prop} (h : EvAK tl σ H fun vs Hx => vs.all chk = true ∧ vs.length ≤ 50 ∧ ∀ xs p, xs.all chk = true → xs.length = vs.length → Hx p = none → P (.ref p) (upd Hx p (.lst xs))) : EvK (tLst tl) σ H P := k_lst (fun H1 e Q k => h H1 e Q fun vs H2 ⟨Hx, ex, h1, h2, h3⟩ => k vs H2 ⟨Hx, ex, by omega, fun p np => h3 vs p h1 rfl np⟩)
theorem ke_keepG {K : PySem.W.Frag} {σ : L2.St} {H : Hp} {D : Ends} {w : TS} {c : Value} {C : Addr} {i j : Nat} (he : PySem.W.exmOne K (.ref C) c = some true) (h : ∀ a, H a = none → Go w D (((σ.set i (some (.ref a))).set j (some (.ref a))).set i none) (upd H a (CxO C a))) : KE (WE (wKeep K c C i j { D with nx := w D }) σ) (.ref C) none H := ke_keep he fun a na H1 e1 => h a na H1 e1

section
variable {P : Program} {w : World} {K : PySem.W.Frag} {mg : Str → Option Value} {base : Heap}
theorem ok_number_of {C_PurseError C_NoGift C_Unlike C_Gap C_NoText : Addr} {tok : Tok} (T : TxtX K mg C_PurseError C_NoGift C_Unlike C_Gap C_NoText tok) {f : Addr} {fd : FuncData} (F : Fun K "number_of" "number_of" s_number_of f fd) (B : Bl mg) : FnOk P w K mg base (L2.CX P w) 1 f fd ["figures", "most"] (spnumber_of K C_NoText) := by
  refine F.okX sc_number_of (fun vs H Q E h => ?_) (fun cdv A outer s H vs Q E hr h => ?_)
  · obtain ⟨l, m, rfl, _⟩ := h
    rfl
  · obtain ⟨l, m, rfl, hl, hm, qe, qk⟩ := h
    have bad : Pz.ok l m = false → KE E (.ref C_NoText) none H := fun h => qe (by unfold Pz.num; rw [h]; rfl)
    refine ⟨_, (pss_cons (ps_if (pt_not (pt_chain op_le op_le pe_int (pe_callB call_len_str (by rfl) B.len_ boot_len (pa_cons (pv 0) pa_nil)) (pv 1))) (pss_one (ps_raise rfl (takes_of rfl rfl rfl rfl) (pmk_own PySem.F.excBase_ValueError T.x_NoText T.g_NoText T.k_NoText (raises_own T.b_NoText T.t_NoText) rfl))) pss_nil)
      (pss_cons (ps_for (passes_of rfl) rfl (pi_str (pv 0)) (pg_name (i := 2) sc_number_of.nd rfl (Or.inl rfl)) (pss_one (ps_if (pt_cmpR op_notIn_sign (pv 2) (pe_glob (v := .str (SX.S Pn.fig)) rfl T.g_FIGURES ⟨_, rfl⟩) rfl) (pss_one (ps_raise rfl (takes_of rfl rfl rfl rfl) (pmk_own PySem.F.excBase_ValueError T.x_NoText T.g_NoText T.k_NoText (raises_own T.b_NoText T.t_NoText) rfl))) pss_nil)))
      (pss_cons (ps_if (PW.pt (pw_and (pt_cmpR op_eq (pe_ix ix_str (pv 0) pe_int (fun _ _ => rfl)) pe_str (nomark _)) (pw_and1 (pt_cmpR op_gt (pe_callB call_len_str (by rfl) B.len_ boot_len (pa_cons (pv 0) pa_nil)) pe_int (nomark _))))) (pss_one (ps_raise rfl (takes_of rfl rfl rfl rfl) (pmk_own PySem.F.excBase_ValueError T.x_NoText T.g_NoText T.k_NoText (raises_own T.b_NoText T.t_NoText) rfl))) pss_nil)
      (pss_one (ps_ret (pe_callTy call_int_str (by rfl) B.int_ boot_int (pa_cons (pv 0) pa_nil))))))), Go.here ?_⟩
    walk_at "s"; walk_at "ks"
    refine c_lenS (by omega) ?_
    walk_at "ks"
    by_cases c1 : 1 ≤ l.length
    rotate_left
    · rw [decide_eq_false (by omega)]
      refine ⟨fun hb => Bool.noConfusion hb, fun _ => ⟨false, rfl, fun _ => ?_, fun h => Bool.noConfusion h⟩⟩
      exact fun H1 e1 => bad (by unfold Pz.ok; rw [decide_eq_false c1]; rfl) H1 e1
    rw [decide_eq_true (by omega)]
    refine ⟨fun _ => ?_, fun hb => Bool.noConfusion hb⟩
    walk_at "ks"
    by_cases c2 : l.length ≤ m
    rotate_left
    · rw [decide_eq_false (by omega)]
      refine ⟨fun _ => ?_, fun h => Bool.noConfusion h⟩
      exact fun H1 e1 => bad (by unfold Pz.ok; rw [decide_eq_false c2, Bool.and_false]; rfl) H1 e1
    rw [decide_eq_true (by omega)]
    refine ⟨fun h => Bool.noConfusion h, fun _ => ?_⟩
    refine gs_forS ?_
    walk_at "ks"
    refine ⟨l, fun i σ' H' => ∃ v : Option V, σ' = [some (.str (SX.S l)), some (.int (m : Int)), v] ∧ H = H' ∧ ∀ c ∈ l.take i, c ∈ Pn.fig, rfl, ⟨none, rfl, rfl, fun c h => by cases h⟩, ?_, ?_⟩
    · rintro i c σ' H' hc ⟨v, rfl, rfl, hf⟩
      walk_at "s"; walk_at "ks"
      refine r_notInS ?_
      by_cases c3 : c ∈ Pn.fig
      rotate_left
      · rw [decide_eq_false c3]
        walk_at "ks"
        refine ⟨fun _ => ?_, fun h => Bool.noConfusion h⟩
        exact fun H1 e1 => qe (Pz.num_free c3 (List.mem_of_getElem? hc)) H1 e1
      rw [decide_eq_true c3]
      walk_at "ks"
      refine ⟨fun hb => Bool.noConfusion hb, fun _ => ?_⟩
      refine g1_next fun H1 e1 => ⟨_, e1, _, rfl, rfl, fun x hx => ?_⟩
      rw [Pm.take_more hc] at hx
      rcases List.mem_append.mp hx with h | h
      · exact hf x h
      · rw [List.mem_singleton.mp h]
        exact c3
    rintro σ' H' ⟨v, rfl, rfl, hf⟩
    rw [List.take_length] at hf
    have hall : l.all (fun c => decide (c ∈ Pn.fig)) = true := List.all_eq_true.mpr fun c hc => decide_eq_true (hf c hc)
    obtain ⟨c, r, ec⟩ : ∃ c r, l = c :: r := by
      cases e : l with
      | nil => rw [e] at c1; cases c1
      | cons x r => exact ⟨x, r, rfl⟩
    have okb : Pz.ok l m = !(decide (l.head? = some 48) && decide (1 < l.length)) := by
      unfold Pz.ok
      rw [decide_eq_true c1, decide_eq_true c2, hall]
      rfl
    have fine : Pz.ok l m = true → KQ Q (.int (NumText.digitsVal l : Int)) H := fun h => qk _ (by unfold Pz.num; rw [if_pos h])
    walk_at "s"; walk_at "ks"
    refine r_ixS (c := c) (by omega) (atI_nat (j := 0) (by rw [ec]; rfl)) ?_
    walk_at "ks"
    refine r_eqL lit_0 ?_
    walk_at "ks"
    refine ⟨fun hb => ?_, fun hb => ⟨fun h => Bool.noConfusion h, fun _ => ?_⟩⟩
    · have hc : c = 48 := (List.cons.inj (of_decide_eq_true hb)).1
      have hh : decide (l.head? = some 48) = true := by rw [ec, hc]; rfl
      walk_at "ks"
      refine c_lenS (by omega) ?_
      walk_at "ks"
      by_cases c4 : 1 < l.length
      · rw [decide_eq_true (by omega)]
        refine ⟨fun _ => ?_, fun h => Bool.noConfusion h⟩
        exact fun H1 e1 => bad (by rw [okb, hh, decide_eq_true c4]; rfl) H1 e1
      · rw [decide_eq_false (by omega)]
        refine ⟨fun h => Bool.noConfusion h, fun _ => ?_⟩
        walk_at "s"; walk_at "ks"
        exact c_intS (Pz.int_dv hf (by rw [ec]; exact List.cons_ne_nil _ _) (by omega)) (by omega) (fine (by rw [okb, decide_eq_false c4, Bool.and_false]; rfl))
    · have hc : c ≠ 48 := fun e => of_decide_eq_false hb (by rw [e])
      have hh : decide (l.head? = some 48) = false := decide_eq_false (by rw [ec]; exact fun e => hc (Option.some.inj e))
      walk_at "s"; walk_at "ks"
      exact c_intS (Pz.int_dv hf (by rw [ec]; exact List.cons_ne_nil _ _) (by omega)) (by omega) (fine (by rw [okb, hh]; rfl))
theorem ok_gift_of {C_PurseError C_NoGift C_Unlike C_Gap C_NoText : Addr} {tok : Tok} (T : TxtX K mg C_PurseError C_NoGift C_Unlike C_Gap C_NoText tok) {f : Addr} {fd : FuncData} (F : Fun K "gift_of" "gift_of" s_gift_of f fd) (B : Bl mg) {f_number_of : Addr} {fd_number_of : FuncData} (c_number_of : Cl P w K mg base (L2.CX P w) 1 "number_of" f_number_of fd_number_of ["figures", "most"] (spnumber_of K C_NoText)) : FnOk P w K mg base (L2.CX P w) 2 f fd ["word"] (spgift_of K C_NoText) := by
  refine F.okX sc_gift_of (fun vs H Q E h => ?_) (fun cdv A outer s H vs Q E hr h => ?_)
  · obtain ⟨w, rfl, _⟩ := h
    rfl
  · obtain ⟨w, rfl, hw, qe, q⟩ := h
    refine ⟨_, (pss_cons (ps_asg (pe_partition (pv 0) pe_str) (pgT (K := K) (n := 3) rfl (pgs_cons (pg_name (i := 1) sc_gift_of.nd rfl (Or.inl rfl)) (pgs_cons (pg_name (i := 2) sc_gift_of.nd rfl (Or.inl rfl)) (pgs_cons (pg_name (i := 3) sc_gift_of.nd rfl (Or.inl rfl)) pgs_nil)))))
      (pss_cons (ps_asg (pe_partition (pv 1) pe_str) (pgT (K := K) (n := 3) rfl (pgs_cons (pg_name (i := 4) sc_gift_of.nd rfl (Or.inl rfl)) (pgs_cons (pg_name (i := 5) sc_gift_of.nd rfl (Or.inl rfl)) (pgs_cons (pg_name (i := 6) sc_gift_of.nd rfl (Or.inl rfl)) pgs_nil)))))
      (pss_cons (ps_if (PW.pt (pw_or (pt_cmpR op_eq (pv 2) pe_str (nomark _)) (pw_or1 (pt_cmpR op_eq (pv 5) pe_str (nomark _))))) (pss_one (ps_raise rfl (takes_of rfl rfl rfl rfl) (pmk_own PySem.F.excBase_ValueError T.x_NoText T.g_NoText T.k_NoText (raises_own T.b_NoText T.t_NoText) rfl))) pss_nil)
      (pss_cons (ps_set (i := 7) sc_gift_of.nd rfl (Or.inl rfl) (peX (E := E) (pe_call c_number_of.ok (hr.mono (by decide)) (by rfl) c_number_of.gl c_number_of.kp c_number_of.bd .nil (passes_call (takes_of rfl rfl rfl rfl) (fun _ _ _ _ h => h)) (pa_cons (pv 4) (pa_cons pe_int pa_nil)))))
      (pss_cons (ps_set (i := 8) sc_gift_of.nd rfl (Or.inl rfl) (peX (E := E) (pe_call c_number_of.ok (hr.mono (by decide)) (by rfl) c_number_of.gl c_number_of.kp c_number_of.bd .nil (passes_call (takes_of rfl rfl rfl rfl) (fun _ _ _ _ h => h)) (pa_cons (pv 6) (pa_cons pe_int pa_nil)))))
      (pss_cons (ps_set (i := 9) sc_gift_of.nd rfl (Or.inl rfl) (peX (E := E) (pe_call c_number_of.ok (hr.mono (by decide)) (by rfl) c_number_of.gl c_number_of.kp c_number_of.bd .nil (passes_call (takes_of rfl rfl rfl rfl) (fun _ _ _ _ h => h)) (pa_cons (pv 3) (pa_cons pe_int pa_nil)))))
      (pss_cons (ps_if (PW.pt (pw_or (pt_cmpR op_eq (pv 7) (pv 8) (nomark _)) (pw_or1 (pt_cmpR op_eq (pv 9) pe_int (nomark _))))) (pss_one (ps_raise rfl (takes_of rfl rfl rfl rfl) (pmk_own PySem.F.excBase_ValueError T.x_NoText T.g_NoText T.k_NoText (raises_own T.b_NoText T.t_NoText) rfl))) pss_nil)
      (pss_one (ps_ret (pe_tup (pa_cons (pv 7) (pa_cons (pv 8) (pa_cons (pv 9) pa_nil))))))))))))), Go.here ?_⟩
    refine gs_asgG ?_
    refine k_m1 ?_
    walk_at "ks"
    refine ⟨⟨_, rfl⟩, ?_⟩
    walk_at "ks"
    refine m_part lit_col (by omega) fun p np => ?_
    cases h1 : Pz.cut 58 w with
    | none =>
      have gn : Pz.gw w = none := by unfold Pz.gw; rw [h1]
      rw [Pz.part_none h1]
      have e1 := Ex.new (o := .tup [V.str (SX.S w), V.str (SX.S []), V.str (SX.S [])]) np
      refine gk_tup3 (st_of upd_same) (gk_name (gk_name (gk_name ?_)))
      generalize upd H p (.tup [V.str (SX.S w), V.str (SX.S []), V.str (SX.S [])]) = H1 at e1
      refine gs_asgG ?_
      refine k_m1 ?_
      walk_at "ks"
      refine ⟨⟨_, rfl⟩, ?_⟩
      walk_at "ks"
      refine m_part lit_gt (by omega) fun p2 np2 => ?_
      obtain ⟨x, y, z, exyz⟩ : ∃ x y z : Str, Txt.partition (SX.S w) (SX.S [62]) = (x, y, z) := ⟨_, _, _, rfl⟩
      rw [exyz]
      have e2 := e1.trans (Ex.new (o := .tup [V.str x, V.str y, V.str z]) np2)
      refine gk_tup3 (st_of upd_same) (gk_name (gk_name (gk_name ?_)))
      generalize upd H1 p2 (.tup [V.str x, V.str y, V.str z]) = H2 at e2
      walk_at "s"; walk_at "ks"
      refine r_eqL lit_e ?_
      walk_at "ks"
      rw [decide_eq_true rfl]
      refine ⟨fun _ => ⟨fun _ => ?_, fun hb => Bool.noConfusion hb⟩, fun hb => Bool.noConfusion hb⟩
      exact fun H3 e3 => (qe gn).up e2 H3 e3
    | some et =>
      obtain ⟨e, t⟩ := et
      obtain ⟨le, lt⟩ := Pz.cut_len h1
      rw [Pz.part_some h1]
      have e1 := Ex.new (o := .tup [V.str (SX.S e), V.str (SX.S [58]), V.str (SX.S t)]) np
      refine gk_tup3 (st_of upd_same) (gk_name (gk_name (gk_name ?_)))
      generalize upd H p (.tup [V.str (SX.S e), V.str (SX.S [58]), V.str (SX.S t)]) = H1 at e1
      refine gs_asgG ?_
      refine k_m1 ?_
      walk_at "ks"
      refine ⟨⟨_, rfl⟩, ?_⟩
      walk_at "ks"
      refine m_part lit_gt (by omega) fun p2 np2 => ?_
      cases h2 : Pz.cut 62 e with
      | none =>
        have gn : Pz.gw w = none := by unfold Pz.gw; rw [h1]; dsimp only; rw [h2]
        rw [Pz.part_none h2]
        have e2 := e1.trans (Ex.new (o := .tup [V.str (SX.S e), V.str (SX.S []), V.str (SX.S [])]) np2)
        refine gk_tup3 (st_of upd_same) (gk_name (gk_name (gk_name ?_)))
        generalize upd H1 p2 (.tup [V.str (SX.S e), V.str (SX.S []), V.str (SX.S [])]) = H2 at e2
        walk_at "s"; walk_at "ks"
        refine r_eqL lit_e ?_
        walk_at "ks"
        refine ⟨fun hb => Bool.noConfusion hb, fun _ => ?_⟩
        walk_at "ks"
        refine r_eqL lit_e ?_
        walk_at "ks"
        rw [decide_eq_true rfl]
        refine ⟨fun _ => ?_, fun hb => Bool.noConfusion hb⟩
        exact fun H3 e3 => (qe gn).up e2 H3 e3
      | some ab =>
        obtain ⟨a, b⟩ := ab
        obtain ⟨la, lb⟩ := Pz.cut_len h2
        have ge := Pz.gw_eq h1 h2
        rw [Pz.part_some h2]
        have e2 := e1.trans (Ex.new (o := .tup [V.str (SX.S a), V.str (SX.S [62]), V.str (SX.S b)]) np2)
        refine gk_tup3 (st_of upd_same) (gk_name (gk_name (gk_name ?_)))
        generalize upd H1 p2 (.tup [V.str (SX.S a), V.str (SX.S [62]), V.str (SX.S b)]) = H2 at e2
        walk_at "s"; walk_at "ks"
        refine r_eqL lit_e ?_
        walk_at "ks"
        refine ⟨fun hb => Bool.noConfusion hb, fun _ => ?_⟩
        walk_at "ks"
        refine r_eqL lit_e ?_
        walk_at "ks"
        refine ⟨fun hb => Bool.noConfusion hb, fun _ => ?_⟩
        walk_at "s"
        refine k_callX ?_
        walk_at "ks"
        refine k_number_of (m := 2) (by omega) (by decide) (fun z => (qe (by rw [ge, z]; exact Pz.three_none1)).up e2) fun g hg => ?_
        walk_at "s"
        refine k_callX ?_
        walk_at "ks"
        refine k_number_of (m := 2) (by omega) (by decide) (fun z => (qe (by rw [ge, z]; exact Pz.three_none2)).up e2) fun k hk => ?_
        walk_at "s"
        refine k_callX ?_
        walk_at "ks"
        refine k_number_of (m := 61) (by omega) (by decide) (fun z => (qe (by rw [ge, z]; exact Pz.three_none3)).up e2) fun am ham => ?_
        rw [hg, hk, ham] at ge
        walk_at "s"; walk_at "ks"
        by_cases c1 : g = k
        · rw [decide_eq_true (by omega)]
          refine ⟨fun _ => ⟨fun _ => ?_, fun hb => Bool.noConfusion hb⟩, fun hb => Bool.noConfusion hb⟩
          exact fun H3 e3 => (qe (by rw [ge]; exact if_pos (.inl c1))).up e2 H3 e3
        rw [decide_eq_false (by omega)]
        refine ⟨fun hb => Bool.noConfusion hb, fun _ => ?_⟩
        walk_at "ks"
        by_cases c2 : am = 0
        · rw [decide_eq_true (by omega)]
          refine ⟨fun _ => ?_, fun hb => Bool.noConfusion hb⟩
          exact fun H3 e3 => (qe (by rw [ge]; exact if_pos (.inr c2))).up e2 H3 e3
        rw [decide_eq_false (by omega)]
        refine ⟨fun hb => Bool.noConfusion hb, fun _ => ?_⟩
        walk_at "s"; walk_at "ks"
        refine ⟨(by show 3 ≤ 100000; decide), fun r nr => ?_⟩
        exact q ((g : Int), (k : Int), (am : Int)) (by rw [ge]; exact if_neg (fun h => h.elim c1 c2)) r _ (e2.trans (Ex.new nr)) (fresh_back e2 nr) upd_same
theorem ok_read {C_PurseError C_NoGift C_Unlike C_Gap C_NoText : Addr} {tok : Tok} (T : TxtX K mg C_PurseError C_NoGift C_Unlike C_Gap C_NoText tok) {f : Addr} {fd : FuncData} (F : Fun K "read" "read" s_read f fd) (B : Bl mg) {f_gift_of : Addr} {fd_gift_of : FuncData} (c_gift_of : Cl P w K mg base (L2.CX P w) 2 "gift_of" f_gift_of fd_gift_of ["word"] (spgift_of K C_NoText)) : FnOk P w K mg base (L2.CX P w) 3 f fd ["text"] (spread K C_NoText) := by
  refine F.okX sc_read (fun vs H Q E h => ?_) (fun cdv A outer s H vs Q E hr h => ?_)
  · obtain ⟨l, rfl, _⟩ := h
    rfl
  · obtain ⟨l, rfl, hl, qe, q⟩ := h
    refine ⟨_, (pss_cons (ps_if (pt_cmpR op_eq (pv 0) pe_str (nomark _)) (pss_one (ps_ret (pe_lst pa_nil))) pss_nil)
      (pss_one (ps_ret (pe_lcX (W := fun cls d σ H => E cls d H) (Wx := E) (own := [("word", 1)]) (g := gName 1) rfl sc_read.nd rfl rfl (takes_of rfl rfl rfl rfl) (fun _ _ _ _ h => h) (piL (K := K) (pe_split (pv 0) pe_str)) (blkOk_by (own := [("word", 1)]) (N := n_read) (sc := defScope s_read) (by decide +kernel)) (by decide) (fun _ _ _ _ _ _ _ => pg_name (i := 1) sc_read.nd rfl (Or.inl rfl)) (fun _ _ _ _ _ _ _ hx => (peX (E := E) (pe_call c_gift_of.ok (hr.mono (by decide)) (by rfl) c_gift_of.gl c_gift_of.kp c_gift_of.bd .nil hx (pa_cons (pv 1) pa_nil)))))))), Go.here ?_⟩
    walk_at "s"; walk_at "ks"
    refine r_eqL lit_e ?_
    walk_at "ks"
    refine ⟨fun hb => ?_, fun hb => ?_⟩
    · have h0 := of_decide_eq_true hb
      walk_at "s"; walk_at "ks"
      refine ⟨(by show 0 ≤ 100000; decide), fun p np => ?_⟩
      exact q [] (by unfold Pz.rd; rw [if_pos h0]) p [] _ (Ex.new np) ⟨upd_same, rfl, fun i g z h => by cases h⟩
    have h0 := of_decide_eq_false hb
    have hrd : Pz.rd l = Pz.mapO Pz.gw (TL.spl [32] 0 [] l) := by unfold Pz.rd; rw [if_neg h0]
    rw [hrd] at qe q
    have hsl := Pz.spl_len (c := 32) _ l (Nat.le_refl _)
    have hpl := Pz.spl_part_len (c := 32) _ l (Nat.le_refl _)
    generalize hws : TL.spl [32] 0 [] l = ws at qe q hsl hpl
    walk_at "s"
    refine k_lcW ?_
    refine k_m1 ?_
    walk_at "ks"
    refine ⟨⟨_, rfl⟩, ?_⟩
    walk_at "ks"
    refine m_split lit_sp (by decide) (by omega) fun p np => ?_
    rw [hws]
    have e1 := Ex.new (o := .lst ((ws.map SX.S).map V.str)) np
    have p1 : (upd H p (.lst ((ws.map SX.S).map V.str))) p = some (.lst ((ws.map SX.S).map V.str)) := upd_same
    generalize upd H p (.lst ((ws.map SX.S).map V.str)) = H1 at e1 p1
    refine ⟨p, (ws.map SX.S).map V.str, fun D i acc Hy => ∃ (qs : List Addr) (Gs : List Pg.Gift), acc = qs.map V.ref ∧ qs.length = i ∧ i ≤ ws.length ∧ Ex H1 Hy ∧ GfH Hy D qs Gs ∧ Pz.mapO Pz.gw (ws.take i) = some Gs, rfl, by rw [List.length_map, List.length_map]; omega, sq_of p1, fun D nD => ⟨[], [], rfl, rfl, Nat.zero_le _, Ex.new nD, ⟨upd_same, rfl, fun k g z h => by cases h⟩, rfl⟩, ?_, ?_, ?_⟩
    · rintro D i acc Hy nD ⟨qs, Gs, rfl, hq, _, e, hD, _⟩
      exact ⟨sq_of (e _ _ p1), by rw [List.length_map, hq]; exact Nat.le_refl _, hD.lst⟩
    · rintro D i x acc Hy nD hx ⟨qs, Gs, rfl, hq, hiw, e, hD, hm⟩
      obtain ⟨w', hw', rfl⟩ : ∃ w, ws[i]? = some w ∧ x = V.str (SX.S w) := by
        rw [List.getElem?_map, List.getElem?_map] at hx
        cases ez : ws[i]? with
        | none => rw [ez] at hx; cases hx
        | some z => rw [ez] at hx; exact ⟨z, rfl, (Option.some.inj hx).symm⟩
      have hwm := List.mem_of_getElem? hw'
      refine gk_name ⟨rfl, kt_yes ⟨fun _ => ?_, fun hb => Bool.noConfusion hb⟩⟩
      refine k_callX ?_
      walk_at "ks"
      refine k_gift_of (by have := hpl w' hwm; omega) (fun z => (qe (Pz.mapO_none hwm z)).up (e1.trans e)) fun z hz g H2 e2 ng hgt => ?_
      have hD2 := hD.up e2
      refine ⟨hD2.lst, qs ++ [g], Gs ++ [z], by rw [List.map_append]; rfl, by rw [List.length_append, hq]; rfl, (List.getElem?_eq_some_iff.mp hw').1, Ex.mut (e.trans e2) nD, ?_, ?_⟩
      · have tW : ∀ b u, H2 b = some (.tup u) → (upd H2 D (.lst (qs.map V.ref ++ [V.ref g]))) b = some (.tup u) := fun b u hb => by
          rw [upd_ne fun eb => by subst eb; rw [hD2.lst] at hb; cases hb]
          exact hb
        exact hD2.snoc (by rw [upd_same, List.map_append]; rfl) tW (tW _ _ hgt)
      · rw [Pm.take_more hw']
        exact Pz.mapO_snoc hm hz
    · rintro D acc Hy nD ⟨qs, Gs, rfl, hq, _, e, hD, hm⟩
      rw [List.length_map, List.length_map, List.take_length] at hm
      exact q Gs hm D qs Hy (e1.trans e) hD
theorem ok_Lwhole {C_PurseError C_NoGift C_Unlike C_Gap C_NoText : Addr} {tok : Tok} (T : TxtX K mg C_PurseError C_NoGift C_Unlike C_Gap C_NoText tok) {f : Addr} {fd : FuncData} (F : Fun K "_law_whole" "_law_whole" s_Lwhole f fd) (B : Bl mg) : FnOk P w K mg base CX0 1 f fd ["_law_found"] (spLwhole K) := by
  refine F.ok sc_Lwhole (fun vs H Q E h => ?_) (fun cdv A outer s H vs Q E hr h => ?_)
  · obtain ⟨i, rfl, _⟩ := h
    rfl
  · obtain ⟨i, rfl, q⟩ := h
    refine ⟨_, (pss_one (ps_ret (pe_and (pe_callB (bIsi (K := K)) (by rfl) B.isinstance_ boot_isinstance (pa_cons (pv 0) (pa_cons (pe_bltn (v := .ty "int") (by rfl) B.int_ boot_int rfl) pa_nil))) (pe_one (pe_not (pe_callB (bIsi (K := K)) (by rfl) B.isinstance_ boot_isinstance (pa_cons (pv 0) (pa_cons (pe_bltn (v := .ty "bool") (by rfl) B.bool_ boot_bool rfl) pa_nil)))))))), Go.here ?_⟩
    walk_at "s"; walk_at "ks"
    refine c_int_int ?_
    walk_at "ks"
    refine ⟨fun _ => ?_, fun hb => Bool.noConfusion hb⟩
    walk_at "ks"
    refine c_int_bool ?_
    walk_at "ks"
    exact q
theorem ok_Lgift {C_PurseError C_NoGift C_Unlike C_Gap C_NoText : Addr} {tok : Tok} (T : TxtX K mg C_PurseError C_NoGift C_Unlike C_Gap C_NoText tok) {f : Addr} {fd : FuncData} (F : Fun K "_law_gift" "_law_gift" s_Lgift f fd) (B : Bl mg) : FnOk P w K mg base CX0 1 f fd ["_law_cell"] (spLgift K) := by
  refine F.ok sc_Lgift (fun vs H Q E h => ?_) (fun cdv A outer s H vs Q E hr h => ?_)
  · obtain ⟨c, rfl, _⟩ := h
    rfl
  · obtain ⟨c, rfl, bc, q⟩ := h
    refine ⟨_, (pss_cons (ps_set (i := 1) sc_Lgift.nd rfl (Or.inl rfl) (pe_op op_mod (pe_op op_mulX (pv 0) pe_int) pe_int))
      (pss_cons (ps_set (i := 2) sc_Lgift.nd rfl (Or.inl rfl) (pe_op op_mod (pv 1) pe_int))
      (pss_cons (ps_set (i := 3) sc_Lgift.nd rfl (Or.inl rfl) (pe_op op_mod (pe_op op_add (pe_op op_add (pv 2) pe_int) (pe_op op_mod (pe_op op_fdiv (pv 1) pe_int) pe_int)) pe_int))
      (Evl.pss_cut (ps_if (pt_cmpR op_eq (pe_op op_mod (pe_op op_fdiv (pv 1) pe_int) pe_int) pe_int (nomark _)) (pss_cons (ps_set (i := 2) sc_Lgift.nd rfl (Or.inl rfl) (pe_op op_mod (pv 2) pe_int))
      (pss_one (ps_set (i := 3) sc_Lgift.nd rfl (Or.inl rfl) (pe_op op_mod (pe_op op_add (pe_op op_add (pv 2) pe_int) (pe_op op_mod (pe_op op_fdiv (pv 1) pe_int) pe_int)) pe_int)))) pss_nil)
      (pss_cons (ps_set (i := 4) sc_Lgift.nd rfl (Or.inl rfl) (pe_ix (ixl (K := K)) (pe_lst (pa_cons pe_int (pa_cons pe_int (pa_cons (pe_op op_pow pe_int pe_int) (pa_cons (pe_op op_pow pe_int pe_int) (pa_cons (pe_op op_pow pe_int pe_int) (pa_cons (pe_op op_sub (pe_op op_pow pe_int pe_int) pe_int) pa_nil))))))) (pe_op op_mod (pe_op op_fdiv (pv 1) pe_int) pe_int) (fun _ _ => rfl)))
      (pss_cons (ps_set (i := 5) sc_Lgift.nd rfl (Or.inl rfl) (pe_op op_add pe_int (pe_op op_mod (pe_op op_mulX (pv 0) pe_int) (pv 4))))
      (pss_one (ps_ret (pe_tup (pa_cons (pv 2) (pa_cons (pv 3) (pa_cons (pv 5) pa_nil)))))))))))), Go.here ?_⟩
    walk_at "s"; walk_at "ks"
    generalize c * 48271 % 2147483647 = m
    have m0 := Int.emod_nonneg m (show (100 : Int) ≠ 0 by decide)
    have m1 := Int.emod_lt_of_pos m (show (0 : Int) < 100 by decide)
    walk_at "s"; walk_at "ks"
    generalize m % 100 = g at m0 m1
    walk_at "s"; walk_at "ks"
    have n0 := Int.emod_nonneg (m / 100) (show (99 : Int) ≠ 0 by decide)
    have n1 := Int.emod_lt_of_pos (m / 100) (show (0 : Int) < 99 by decide)
    have o0 := Int.emod_nonneg (m / 100) (show (11 : Int) ≠ 0 by decide)
    have o1 := Int.emod_lt_of_pos (m / 100) (show (0 : Int) < 11 by decide)
    refine gs_mid (fun σ' H' => ∃ g t : Int, 0 ≤ g ∧ g < 100 ∧ 0 ≤ t ∧ t < 100 ∧ g ≠ t ∧ σ' = [some (.int c), some (.int m), some (.int g), some (.int t), none, none] ∧ H = H') ?_ ?_
    · walk_at "s"; walk_at "ks"
      refine ⟨fun hb => ?_, fun hb => ?_⟩
      · walk_at "s"; walk_at "ks"
        walk_at "s"; walk_at "ks"
        exact fun H1 e1 => ⟨_, e1, _, _, by omega, by omega, by omega, by omega, by omega, rfl, rfl⟩
      · exact g1_next fun H1 e1 => ⟨_, e1, _, _, m0, m1, by omega, by omega, by omega, rfl, rfl⟩
    clear m0 m1 n0 n1 o0 o1
    clear g
    rintro σ' H' ⟨g, t, g0, g1, t0, t1, hne, rfl, rfl⟩
    walk_at "s"; walk_at "ks"
    refine ⟨(by show 6 ≤ 100000; decide), fun p np => ?_⟩
    walk_at "ks"
    have k0 := Int.emod_nonneg (m / 9900) (show (6 : Int) ≠ 0 by decide)
    have k1 := Int.emod_lt_of_pos (m / 9900) (show (0 : Int) < 6 by decide)
    generalize m / 9900 % 6 = kd at k0 k1
    have hmost : ∃ most : Int, 10 ≤ most ∧ most ≤ 10 ^ 61 - 1 ∧ atI [V.int 10, V.int 1000, V.int (10 ^ Int.toNat 9), V.int (10 ^ Int.toNat 18), V.int (10 ^ Int.toNat 40), V.int (10 ^ Int.toNat 61 - 1)] kd = some (.int most) := by
      have hk : kd = 0 ∨ kd = 1 ∨ kd = 2 ∨ kd = 3 ∨ kd = 4 ∨ kd = 5 := by omega
      rcases hk with rfl | rfl | rfl | rfl | rfl | rfl
      · exact ⟨_, by decide +kernel, by decide +kernel, rfl⟩
      · exact ⟨_, by decide +kernel, by decide +kernel, rfl⟩
      · exact ⟨_, by decide +kernel, by decide +kernel, rfl⟩
      · exact ⟨_, by decide +kernel, by decide +kernel, rfl⟩
      · exact ⟨_, by decide +kernel, by decide +kernel, rfl⟩
      · exact ⟨_, by decide +kernel, by decide +kernel, rfl⟩
    obtain ⟨most, h1, h2, h3⟩ := hmost
    refine r_ixL (sq_of upd_same) h3 ?_
    have e1 := Ex.new (o := .lst [V.int 10, V.int 1000, V.int (10 ^ Int.toNat 9), V.int (10 ^ Int.toNat 18), V.int (10 ^ Int.toNat 40), V.int (10 ^ Int.toNat 61 - 1)]) np
    generalize upd H p (.lst [V.int 10, V.int 1000, V.int (10 ^ Int.toNat 9), V.int (10 ^ Int.toNat 18), V.int (10 ^ Int.toNat 40), V.int (10 ^ Int.toNat 61 - 1)]) = H1 at e1
    walk_at "s"; walk_at "ks"
    have r0 := Int.emod_nonneg (c * 3141592653589793238462643383279502884197169399375105820974949) (show most ≠ 0 by omega)
    have r1 := Int.emod_lt_of_pos (c * 3141592653589793238462643383279502884197169399375105820974949) (show 0 < most by omega)
    generalize c * 3141592653589793238462643383279502884197169399375105820974949 % most = x at r0 r1
    walk_at "s"; walk_at "ks"
    refine ⟨(by show 3 ≤ 100000; decide), fun r nr => ?_⟩
    refine q (g, t, 1 + x) r _ ⟨g0, g1, t0, t1, hne, by show 1 ≤ 1 + x; omega, ?_⟩ (e1.trans (Ex.new nr)) (fresh_back e1 nr) upd_same
    show 1 + x < 10 ^ 61
    omega
theorem ok_Lsign {C_PurseError C_NoGift C_Unlike C_Gap C_NoText : Addr} {tok : Tok} (T : TxtX K mg C_PurseError C_NoGift C_Unlike C_Gap C_NoText tok) {f : Addr} {fd : FuncData} (F : Fun K "_law_sign" "_law_sign" s_Lsign f fd) (B : Bl mg) : FnOk P w K mg base CX0 1 f fd ["_law_cell"] (spLsign K) := by
  refine F.ok sc_Lsign (fun vs H Q E h => ?_) (fun cdv A outer s H vs Q E hr h => ?_)
  · obtain ⟨i, rfl, _⟩ := h
    rfl
  · obtain ⟨i, rfl, q⟩ := h
    refine ⟨_, (pss_cons (ps_set (i := 1) sc_Lsign.nd rfl (Or.inl rfl) pe_str)
      (pss_cons (ps_set (i := 1) sc_Lsign.nd rfl (Or.inl rfl) (pe_op op_add_str (pv 1) pe_str))
      (pss_one (ps_ret (pe_ix ix_str (pv 1) (pe_op op_mod (pv 0) pe_int) (fun _ _ => rfl)))))), Go.here ?_⟩
    walk_at "s"; walk_at "ks"
    walk_at "s"; walk_at "ks"
    refine r_addAny (by decide +kernel) ?_
    walk_at "s"; walk_at "ks"
    exact r_ixAny (n := 94) (by decide +kernel) (by decide) (Int.emod_nonneg _ (by decide)) (Int.emod_lt_of_pos _ (by decide)) fun c => q c
theorem ok_Lodd {C_PurseError C_NoGift C_Unlike C_Gap C_NoText : Addr} {tok : Tok} (T : TxtX K mg C_PurseError C_NoGift C_Unlike C_Gap C_NoText tok) {f : Addr} {fd : FuncData} (F : Fun K "_law_odd" "_law_odd" s_Lodd f fd) (B : Bl mg) : FnOk P w K mg base CX0 1 f fd ["_law_cell"] (spLodd K) := by
  refine F.ok sc_Lodd (fun vs H Q E h => ?_) (fun cdv A outer s H vs Q E hr h => ?_)
  · obtain ⟨i, rfl, _⟩ := h
    rfl
  · obtain ⟨i, rfl, q⟩ := h
    refine ⟨_, (pss_cons (ps_set (i := 1) sc_Lodd.nd rfl (Or.inl rfl) (pe_lst (pa_cons pe_str (pa_cons pe_str (pa_cons pe_str (pa_cons pe_str (pa_cons pe_str (pa_cons pe_str (pa_cons pe_str (pa_cons pe_str (pa_cons pe_str (pa_cons pe_str (pa_cons pe_str (pa_cons pe_str (pa_cons pe_str (pa_cons pe_str (pa_cons pe_str pa_nil)))))))))))))))))
      (pss_cons (ps_set (i := 1) sc_Lodd.nd rfl (Or.inl rfl) (pe_op op_cat (pv 1) (pe_lst (pa_cons pe_str (pa_cons pe_str (pa_cons pe_str (pa_cons pe_str (pa_cons pe_str (pa_cons pe_str (pa_cons pe_str (pa_cons pe_str (pa_cons pe_str (pa_cons pe_str pa_nil)))))))))))))
      (pss_cons (ps_set (i := 1) sc_Lodd.nd rfl (Or.inl rfl) (pe_op op_cat (pv 1) (pe_lst (pa_cons pe_str (pa_cons pe_str (pa_cons pe_str (pa_cons pe_str (pa_cons pe_str (pa_cons pe_str (pa_cons pe_str (pa_cons pe_str (pa_cons pe_str pa_nil))))))))))))
      (pss_cons (ps_set (i := 1) sc_Lodd.nd rfl (Or.inl rfl) (pe_op op_cat (pv 1) (pe_lst (pa_cons pe_str (pa_cons pe_str (pa_cons pe_str (pa_cons pe_str (pa_cons pe_str (pa_cons pe_str (pa_cons pe_str (pa_cons pe_str (pa_cons pe_str pa_nil))))))))))))
      (pss_one (ps_ret (pe_ix (ixl (K := K)) (pv 1) (pe_op op_mod (pv 0) pe_int) (fun _ _ => rfl)))))))), Go.here ?_⟩
    walk_at "s"
    refine k_lstW ?_
    walk_at "ks"
    refine ⟨by decide +kernel, by decide, fun xs1 p1 hx1 lx1 np1 => ?_⟩
    have lx1' : xs1.length = 15 := lx1
    have e1 : Ex H (upd H p1 (.lst xs1)) := Ex.new np1
    have a1 : (upd H p1 (.lst xs1)) p1 = some (.lst xs1) := upd_same
    generalize upd H p1 (.lst xs1) = H1 at e1 a1
    walk_at "s"
    refine k_op ?_
    refine k_var (v := .ref p1) rfl ?_
    refine k_lstW ?_
    walk_at "ks"
    refine ⟨by decide +kernel, by decide, fun ys t hy ly nt => ?_⟩
    have ly' : ys.length = 10 := ly
    have x2 := e1.trans (Ex.new (o := .lst ys) nt)
    have q2 := at_up (o := .lst ys) a1 nt
    have t2 : (upd H1 t (.lst ys)) t = some (.lst ys) := upd_same
    generalize upd H1 t (.lst ys) = G2 at x2 q2 t2
    refine r_cat q2 t2 (by omega) fun p2 np2 => ?_
    have e2 := x2.trans (Ex.new (o := .lst (xs1 ++ ys)) np2)
    have a2 : (upd G2 p2 (.lst (xs1 ++ ys))) p2 = some (.lst (xs1 ++ ys)) := upd_same
    generalize upd G2 p2 (.lst (xs1 ++ ys)) = H2 at e2 a2
    have hx2 : (xs1 ++ ys).all chk = true := by rw [List.all_append, hx1, hy]; rfl
    have lx2 : (xs1 ++ ys).length = xs1.length + 10 := by rw [List.length_append, ly']
    generalize xs1 ++ ys = xs2 at a2 hx2 lx2
    walk_at "s"
    refine k_op ?_
    refine k_var (v := .ref p2) rfl ?_
    refine k_lstW ?_
    walk_at "ks"
    refine ⟨by decide +kernel, by decide, fun ys t hy ly nt => ?_⟩
    have ly' : ys.length = 9 := ly
    have x3 := e2.trans (Ex.new (o := .lst ys) nt)
    have q3 := at_up (o := .lst ys) a2 nt
    have t3 : (upd H2 t (.lst ys)) t = some (.lst ys) := upd_same
    generalize upd H2 t (.lst ys) = G3 at x3 q3 t3
    refine r_cat q3 t3 (by omega) fun p3 np3 => ?_
    have e3 := x3.trans (Ex.new (o := .lst (xs2 ++ ys)) np3)
    have a3 : (upd G3 p3 (.lst (xs2 ++ ys))) p3 = some (.lst (xs2 ++ ys)) := upd_same
    generalize upd G3 p3 (.lst (xs2 ++ ys)) = H3 at e3 a3
    have hx3 : (xs2 ++ ys).all chk = true := by rw [List.all_append, hx2, hy]; rfl
    have lx3 : (xs2 ++ ys).length = xs2.length + 9 := by rw [List.length_append, ly']
    generalize xs2 ++ ys = xs3 at a3 hx3 lx3
    walk_at "s"
    refine k_op ?_
    refine k_var (v := .ref p3) rfl ?_
    refine k_lstW ?_
    walk_at "ks"
    refine ⟨by decide +kernel, by decide, fun ys t hy ly nt => ?_⟩
    have ly' : ys.length = 9 := ly
    have x4 := e3.trans (Ex.new (o := .lst ys) nt)
    have q4 := at_up (o := .lst ys) a3 nt
    have t4 : (upd H3 t (.lst ys)) t = some (.lst ys) := upd_same
    generalize upd H3 t (.lst ys) = G4 at x4 q4 t4
    refine r_cat q4 t4 (by omega) fun p4 np4 => ?_
    have e4 := x4.trans (Ex.new (o := .lst (xs3 ++ ys)) np4)
    have a4 : (upd G4 p4 (.lst (xs3 ++ ys))) p4 = some (.lst (xs3 ++ ys)) := upd_same
    generalize upd G4 p4 (.lst (xs3 ++ ys)) = H4 at e4 a4
    have hx4 : (xs3 ++ ys).all chk = true := by rw [List.all_append, hx3, hy]; rfl
    have lx4 : (xs3 ++ ys).length = xs3.length + 9 := by rw [List.length_append, ly']
    generalize xs3 ++ ys = xs4 at a4 hx4 lx4
    walk_at "s"; walk_at "ks"
    have k0 := Int.emod_nonneg i (show (43 : Int) ≠ 0 by decide)
    have k1 := Int.emod_lt_of_pos i (show (0 : Int) < 43 by decide)
    obtain ⟨j, ej⟩ : ∃ j : Nat, i % 43 = (j : Int) := ⟨_, (Int.toNat_of_nonneg k0).symm⟩
    rw [ej] at k1
    rw [ej]
    obtain ⟨x, hx⟩ : ∃ x, xs4[j]? = some x := ⟨_, List.getElem?_eq_getElem (by omega)⟩
    refine r_ixL (sq_of a4) (atI_nat hx) ?_
    obtain ⟨l, rfl, hl⟩ := chk_of (List.all_eq_true.mp hx4 x (List.mem_of_getElem? hx))
    exact q l H4 e4 hl
theorem ok_Lalike {C_PurseError C_NoGift C_Unlike C_Gap C_NoText : Addr} {tok : Tok} (T : TxtX K mg C_PurseError C_NoGift C_Unlike C_Gap C_NoText tok) {f : Addr} {fd : FuncData} (F : Fun K "_law_alike" "_law_alike" s_Lalike f fd) (B : Bl mg) {f_Lwhole : Addr} {fd_Lwhole : FuncData} (c_Lwhole : Cl P w K mg base CX0 1 "_law_whole" f_Lwhole fd_Lwhole ["_law_found"] (spLwhole K)) : FnOk P w K mg base CX0 2 f fd ["_law_found", "_law_due_here"] (spLalike K) := by
  refine F.ok sc_Lalike (fun vs H Q E h => ?_) (fun cdv A outer s H vs Q E hr h => ?_)
  · obtain ⟨a, b, fs, gs, Gs, rfl, _⟩ := h
    rfl
  · obtain ⟨a, b, fs, gs, Gs, rfl, hF, hG, hl, q⟩ := h
    refine ⟨_, (pss_cons (ps_if (PW.pt (pw_or (pt_not (pt_val (pe_callB (bIsi (K := K)) (by rfl) B.isinstance_ boot_isinstance (pa_cons (pv 0) (pa_cons (pe_bltn (v := .ty "list") (by rfl) B.list_ boot_list rfl) pa_nil))))) (pw_or1 (pt_cmpR op_ne (pe_callB (bLen (K := K)) (by rfl) B.len_ boot_len (pa_cons (pv 0) pa_nil)) (pe_callB (bLen (K := K)) (by rfl) B.len_ boot_len (pa_cons (pv 1) pa_nil)) (nomark _))))) (pss_one (ps_ret pe_bl)) pss_nil)
      (pss_cons (ps_for PassesOwn.never rfl (pi_range1 (by rfl) B.range_ (pa_cons (pe_callB (bLen (K := K)) (by rfl) B.len_ boot_len (pa_cons (pv 1) pa_nil)) pa_nil)) (pg_name (i := 2) sc_Lalike.nd rfl (Or.inl rfl)) (pss_cons (ps_if (PW.pt (pw_or (pt_not (pt_val (pe_callB (bIsi (K := K)) (by rfl) B.isinstance_ boot_isinstance (pa_cons (pe_ix (ixl (K := K)) (pv 0) (pv 2) (fun _ _ => rfl)) (pa_cons (pe_bltn (v := .ty "tuple") (by rfl) B.tuple_ boot_tuple rfl) pa_nil))))) (pw_or1 (pt_cmpR op_ne (pe_callB (bLen (K := K)) (by rfl) B.len_ boot_len (pa_cons (pe_ix (ixl (K := K)) (pv 0) (pv 2) (fun _ _ => rfl)) pa_nil)) pe_int (nomark _))))) (pss_one (ps_ret pe_bl)) pss_nil)
      (pss_one (ps_for PassesOwn.never rfl (pi_range1 (by rfl) B.range_ (pa_cons pe_int pa_nil)) (pg_name (i := 3) sc_Lalike.nd rfl (Or.inl rfl)) (pss_one (ps_if (PW.pt (pw_or (pt_not (pt_val (pe_call c_Lwhole.ok (hr.mono (by decide)) (by rfl) c_Lwhole.gl c_Lwhole.kp c_Lwhole.bd .nil pass0 (pa_cons (pe_ix (ixt (K := K)) (pe_ix (ixl (K := K)) (pv 0) (pv 2) (fun _ _ => rfl)) (pv 3) (fun _ _ => rfl)) pa_nil)))) (pw_or1 (pt_cmpR op_ne (pe_ix (ixt (K := K)) (pe_ix (ixl (K := K)) (pv 0) (pv 2) (fun _ _ => rfl)) (pv 3) (fun _ _ => rfl)) (pe_ix (ixt (K := K)) (pe_ix (ixl (K := K)) (pv 1) (pv 2) (fun _ _ => rfl)) (pv 3) (fun _ _ => rfl)) (nomark _))))) (pss_one (ps_ret pe_bl)) pss_nil))))))
      (pss_one (ps_ret pe_bl)))), Go.here ?_⟩
    walk_at "s"; walk_at "ks"
    refine c_list_list hF.lst ?_
    walk_at "ks"
    refine ⟨fun hb => Bool.noConfusion hb, fun _ => ?_⟩
    walk_at "ks"
    refine c_len (sq_of hF.lst) ?_
    walk_at "ks"
    refine c_len hG.lst ?_
    rw [List.length_map, List.length_map, hF.len, hG.len]
    walk_at "ks"
    rw [decide_eq_true rfl]
    refine ⟨fun hb => Bool.noConfusion hb, fun _ => ?_⟩
    refine gs_forR (n := (Gs.length : Int)) (fun i σ' H' => ∃ v2 v3 : Option V, σ' = [some (.ref a), some (.ref b), v2, v3] ∧ H = H') ?_ ?_ ?_
    · walk_at "ks"
      refine c_len hG.lst ?_
      rw [List.length_map, hG.len]
      walk_at "ks"
      exact ⟨rfl, by omega, by omega, none, none, rfl, rfl⟩
    · rintro i σ' H' hi ⟨v2, v3, rfl, rfl⟩
      have hil : i < Gs.length := by omega
      obtain ⟨z, hz⟩ : ∃ z, Gs[i]? = some z := ⟨_, List.getElem?_eq_getElem hil⟩
      obtain ⟨f, hf⟩ : ∃ f, fs[i]? = some f := ⟨_, List.getElem?_eq_getElem (by rw [hF.len]; exact hil)⟩
      obtain ⟨g, hg⟩ : ∃ g, gs[i]? = some g := ⟨_, List.getElem?_eq_getElem (by rw [hG.len]; exact hil)⟩
      have tf := hF.tup i f z hf hz
      have tg := hG.tup i g z hg hz
      have rdF : ∀ (P : V → Hp → Prop), P (.ref f) H → RK (rIxL K) (.ref a) (.int (i : Int)) H P := fun P hp => r_ixL (sq_of hF.lst) (atI_nat (by rw [List.getElem?_map, hf]; rfl)) hp
      have rdG : ∀ (P : V → Hp → Prop), P (.ref g) H → RK (rIxL K) (.ref b) (.int (i : Int)) H P := fun P hp => r_ixL hG.lst (atI_nat (by rw [List.getElem?_map, hg]; rfl)) hp
      walk_at "s"; walk_at "ks"
      refine rdF _ ?_
      walk_at "ks"
      refine c_tup_tup tf ?_
      walk_at "ks"
      refine ⟨fun hb => Bool.noConfusion hb, fun _ => ?_⟩
      walk_at "ks"
      refine rdF _ ?_
      walk_at "ks"
      refine c_lenT (st_of tf) ?_
      walk_at "ks"
      refine ⟨fun hb => Bool.noConfusion hb, fun _ => ?_⟩
      refine gs_forR (n := 3) (fun j σ' H' => ∃ v3 : Option V, σ' = [some (.ref a), some (.ref b), some (.int (i : Int)), v3] ∧ H = H') ?_ ?_ ?_
      · walk_at "ks"
        exact ⟨rfl, by decide, by decide, _, rfl, rfl⟩
      · rintro j σ' H' hj ⟨v3, rfl, rfl⟩
        obtain ⟨y, hy⟩ : ∃ y : Int, atI [V.int z.1, V.int z.2.1, V.int z.2.2] (j : Int) = some (.int y) := by
          have hj3 : j = 0 ∨ j = 1 ∨ j = 2 := by omega
          rcases hj3 with rfl | rfl | rfl
          · exact ⟨_, rfl⟩
          · exact ⟨_, rfl⟩
          · exact ⟨_, rfl⟩
        walk_at "s"; walk_at "ks"
        refine rdF _ ?_
        walk_at "ks"
        refine r_ixT (st_of tf) hy ?_
        walk_at "ks"
        refine k_Lwhole ?_
        walk_at "ks"
        refine ⟨fun hb => Bool.noConfusion hb, fun _ => ?_⟩
        walk_at "ks"
        refine rdF _ ?_
        walk_at "ks"
        refine r_ixT (st_of tf) hy ?_
        walk_at "ks"
        refine rdG _ ?_
        walk_at "ks"
        refine r_ixT tg hy ?_
        walk_at "ks"
        rw [decide_eq_true rfl]
        refine ⟨fun hb => Bool.noConfusion hb, fun _ => ?_⟩
        exact g1_next fun H1 e1 => ⟨_, e1, _, rfl, rfl⟩
      · rintro σ' H' ⟨v3, rfl, rfl⟩
        exact g1_next fun H1 e1 => ⟨_, e1, _, _, rfl, rfl⟩
    · rintro σ' H' ⟨v2, v3, rfl, rfl⟩
      walk_at "s"; walk_at "ks"
      exact q
theorem ok_Lwritten {C_PurseError C_NoGift C_Unlike C_Gap C_NoText : Addr} {tok : Tok} (T : TxtX K mg C_PurseError C_NoGift C_Unlike C_Gap C_NoText tok) {f : Addr} {fd : FuncData} (F : Fun K "_law_written" "_law_written" s_Lwritten f fd) (B : Bl mg) : FnOk P w K mg base CX0 1 f fd ["_law_gift_here"] (spLwritten K) := by
  refine F.ok sc_Lwritten (fun vs H Q E h => ?_) (fun cdv A outer s H vs Q E hr h => ?_)
  · obtain ⟨a, z, rfl, _⟩ := h
    rfl
  · obtain ⟨a, z, rfl, hT, gd, q⟩ := h
    refine ⟨_, (pss_one (ps_ret (pe_op op_add_str (pe_op op_add_str (pe_op op_add_str (pe_op op_add_str (pe_callTy call_str_int (by rfl) B.str_ boot_str (pa_cons (pe_ix (ixt (K := K)) (pv 0) pe_int (fun _ _ => rfl)) pa_nil)) pe_str) (pe_callTy call_str_int (by rfl) B.str_ boot_str (pa_cons (pe_ix (ixt (K := K)) (pv 0) pe_int (fun _ _ => rfl)) pa_nil))) pe_str) (pe_callTy call_str_int (by rfl) B.str_ boot_str (pa_cons (pe_ix (ixt (K := K)) (pv 0) pe_int (fun _ _ => rfl)) pa_nil))))), Go.here ?_⟩
    obtain ⟨l1, l2, l3⟩ := gd.len
    have g0 := gd.g0
    have g1 := gd.g1
    have t0 := gd.t0
    have t1 := gd.t1
    have d0 := gd.d0
    have d1 := gd.d1
    have b3 : Bd 1900 z.2.2 := Bd.mono (n := 203) (Bd.le (j := 10 ^ 61) (by
      have e : ((10 : Int) ^ 61) = ((10 ^ 61 : Nat) : Int) := by decide +kernel
      rw [e] at d1 ⊢
      omega) (by unfold Bd; decide +kernel)) (by decide)
    have b1 : Bd 1900 z.1 := Bd.mono (n := 7) (by unfold Bd; omega) (by decide)
    have b2 : Bd 1900 z.2.1 := Bd.mono (n := 7) (by unfold Bd; omega) (by decide)
    walk_at "s"; walk_at "ks"
    refine r_ixT (v := .int z.1) hT rfl ?_
    walk_at "ks"
    refine c_strI g0 b1 ?_
    walk_at "ks"
    refine r_addL lit_gt (by show _ + 1 ≤ _; omega) ?_
    walk_at "ks"
    refine r_ixT (v := .int z.2.1) hT rfl ?_
    walk_at "ks"
    refine c_strI t0 b2 ?_
    refine r_addS (by rw [List.length_append]; show _ + 1 + _ ≤ _; omega) ?_
    walk_at "ks"
    refine r_addL lit_col (by rw [List.length_append, List.length_append]; show _ + 1 + _ + 1 ≤ _; omega) ?_
    walk_at "ks"
    refine r_ixT (v := .int z.2.2) hT rfl ?_
    walk_at "ks"
    refine c_strI (by omega) b3 ?_
    refine r_addS (by rw [List.length_append, List.length_append, List.length_append]; show _ + 1 + _ + 1 + _ ≤ _; omega) ?_
    refine q _ ?_ ?_
    · simp only [List.length_append, List.length_cons, List.length_nil]
      omega
    · simp only [List.length_append, List.length_cons, List.length_nil]
      omega
theorem ok_Lfigures {C_PurseError C_NoGift C_Unlike C_Gap C_NoText : Addr} {tok : Tok} (T : TxtX K mg C_PurseError C_NoGift C_Unlike C_Gap C_NoText tok) {f : Addr} {fd : FuncData} (F : Fun K "_law_figures" "_law_figures" s_Lfigures f fd) (B : Bl mg) : FnOk P w K mg base CX0 1 f fd ["_law_cell", "_law_mixed"] (spLfigures K) := by
  refine F.ok sc_Lfigures (fun vs H Q E h => ?_) (fun cdv A outer s H vs Q E hr h => ?_)
  · obtain ⟨c, m, rfl, _⟩ := h
    rfl
  · obtain ⟨c, m, rfl, bc, q⟩ := h
    refine ⟨_, (pss_cons (ps_set (i := 2) sc_Lfigures.nd rfl (Or.inl rfl) (pe_op op_add_str (pe_ix (ixl (K := K)) (pe_lst (pa_cons pe_str (pa_cons pe_str pa_nil))) (pe_callTy call_int1 (by rfl) B.int_ boot_int (pa_cons (pe_cmpR op_eq (pe_op op_mod (pv 1) pe_int) pe_int (nomark _)) pa_nil)) (fun _ _ => rfl)) (pe_callTy call_str_int (by rfl) B.str_ boot_str (pa_cons (pe_op op_mod (pe_op op_mulX (pv 0) pe_int) pe_int) pa_nil))))
      (pss_cons (ps_set (i := 3) sc_Lfigures.nd rfl (Or.inl rfl) (pe_op op_add_str (pe_ix (ixl (K := K)) (pe_lst (pa_cons pe_str (pa_cons pe_str pa_nil))) (pe_callTy call_int1 (by rfl) B.int_ boot_int (pa_cons (pe_cmpR op_eq (pe_op op_mod (pv 1) pe_int) pe_int (nomark _)) pa_nil)) (fun _ _ => rfl)) (pe_callTy call_str_int (by rfl) B.str_ boot_str (pa_cons (pe_op op_mod (pe_op op_mulX (pv 0) pe_int) pe_int) pa_nil))))
      (pss_cons (ps_set (i := 4) sc_Lfigures.nd rfl (Or.inl rfl) (pe_op op_add_str (pe_ix (ixl (K := K)) (pe_lst (pa_cons pe_str (pa_cons pe_str pa_nil))) (pe_callTy call_int1 (by rfl) B.int_ boot_int (pa_cons (pe_cmpR op_gt (pe_op op_mod (pv 1) pe_int) pe_int (nomark _)) pa_nil)) (fun _ _ => rfl)) (pe_callTy call_str_int (by rfl) B.str_ boot_str (pa_cons (pe_op op_mod (pe_op op_mulX (pv 0) pe_int) (pe_op op_pow pe_int pe_int)) pa_nil))))
      (Evl.pss_cut (ps_if (pt_cmpR op_eq (pe_op op_mod (pe_op op_fdiv (pv 1) pe_int) pe_int) pe_int (nomark _)) (pss_one (ps_set (i := 4) sc_Lfigures.nd rfl (Or.inl rfl) (pe_callTy call_str_int (by rfl) B.str_ boot_str (pa_cons (pe_op op_add (pe_ix (ixl (K := K)) (pe_lst (pa_cons (pe_op op_pow pe_int pe_int) (pa_cons (pe_op op_pow pe_int pe_int) pa_nil))) (pe_op op_mod (pe_op op_fdiv (pv 1) pe_int) pe_int) (fun _ _ => rfl)) (pe_op op_mod (pv 0) (pe_op op_pow pe_int pe_int))) pa_nil)))) pss_nil)
      (Evl.pss_cut (ps_if (pt_cmpR op_eq (pe_op op_mod (pe_op op_fdiv (pv 1) pe_int) pe_int) pe_int (nomark _)) (pss_one (ps_set (i := 4) sc_Lfigures.nd rfl (Or.inl rfl) (pe_callTy call_str_int (by rfl) B.str_ boot_str (pa_cons (pe_op op_mod (pv 0) pe_int) pa_nil)))) pss_nil)
      (pss_one (ps_ret (pe_op op_add_str (pe_op op_add_str (pe_op op_add_str (pe_op op_add_str (pv 2) pe_str) (pv 3)) pe_str) (pv 4))))))))), Go.here ?_⟩
    walk_at "s"
    refine k_op (k_op (k_lstW ?_))
    walk_at "ks"
    refine ⟨by decide +kernel, by decide, fun xs1 p1 hx1 lx1 np1 => ?_⟩
    have lx1' : xs1.length = 2 := lx1
    have e1 : Ex H _ := (Ex.new (o := .lst xs1) np1)
    have a1 : (upd H p1 (.lst xs1)) p1 = some (.lst xs1) := upd_same
    generalize upd H p1 (.lst xs1) = H1 at e1 a1
    walk_at "ks"
    refine c_intB ?_
    obtain ⟨j1, ej1, hj1⟩ : ∃ j : Nat, (if decide (m % 8 = 1) = true then (1 : Int) else 0) = (j : Int) ∧ j < 2 := by
      split
      · exact ⟨1, rfl, by decide⟩
      · exact ⟨0, rfl, by decide⟩
    rw [ej1]
    obtain ⟨x1, hxx1⟩ : ∃ x, xs1[j1]? = some x := ⟨_, List.getElem?_eq_getElem (by omega)⟩
    refine r_ixL (sq_of a1) (atI_nat hxx1) ?_
    obtain ⟨w1, rfl, hw1⟩ := chk_of (List.all_eq_true.mp hx1 x1 (List.mem_of_getElem? hxx1))
    walk_at "ks"
    have n0 := Int.emod_nonneg (c * 69621) (show (113 : Int) ≠ 0 by decide +kernel)
    have n1 := Int.emod_lt_of_pos (c * 69621) (show (0 : Int) < 113 by decide +kernel)
    generalize c * 69621 % 113 = y at n0 n1
    have n2 : (113 : Int) ≤ (10 ^ 3 : Nat) := by decide +kernel
    refine c_strI n0 (Bd.mono (n := 40) (Bd.le (j := (10 ^ 3 : Nat)) (by omega) (by unfold Bd; decide +kernel)) (by decide)) ?_
    have lk := TL.numL_len (n := y.toNat) (k := 3) (by decide) (by omega)
    generalize TL.numL y.toNat = u at lk
    refine r_addS (by omega) ?_
    have hs1 : (w1 ++ u).length ≤ 30 := by rw [List.length_append]; omega
    generalize w1 ++ u = s1 at hs1
    clear lk n0 n1 n2 hw1 hxx1 hj1 ej1 a1 lx1' lx1 hx1 np1
    clear u y j1 xs1 p1
    walk_at "s"
    refine k_op (k_op (k_lstW ?_))
    walk_at "ks"
    refine ⟨by decide +kernel, by decide, fun xs2 p2 hx2 lx2 np2 => ?_⟩
    have lx2' : xs2.length = 2 := lx2
    have e2 := e1.trans (Ex.new (o := .lst xs2) np2)
    have a2 : (upd H1 p2 (.lst xs2)) p2 = some (.lst xs2) := upd_same
    generalize upd H1 p2 (.lst xs2) = H2 at e2 a2
    walk_at "ks"
    refine c_intB ?_
    obtain ⟨j2, ej2, hj2⟩ : ∃ j : Nat, (if decide (m % 8 = 2) = true then (1 : Int) else 0) = (j : Int) ∧ j < 2 := by
      split
      · exact ⟨1, rfl, by decide⟩
      · exact ⟨0, rfl, by decide⟩
    rw [ej2]
    obtain ⟨x2, hxx2⟩ : ∃ x, xs2[j2]? = some x := ⟨_, List.getElem?_eq_getElem (by omega)⟩
    refine r_ixL (sq_of a2) (atI_nat hxx2) ?_
    obtain ⟨w2, rfl, hw2⟩ := chk_of (List.all_eq_true.mp hx2 x2 (List.mem_of_getElem? hxx2))
    walk_at "ks"
    have n0 := Int.emod_nonneg (c * 16807) (show (127 : Int) ≠ 0 by decide +kernel)
    have n1 := Int.emod_lt_of_pos (c * 16807) (show (0 : Int) < 127 by decide +kernel)
    generalize c * 16807 % 127 = y at n0 n1
    have n2 : (127 : Int) ≤ (10 ^ 3 : Nat) := by decide +kernel
    refine c_strI n0 (Bd.mono (n := 40) (Bd.le (j := (10 ^ 3 : Nat)) (by omega) (by unfold Bd; decide +kernel)) (by decide)) ?_
    have lk := TL.numL_len (n := y.toNat) (k := 3) (by decide) (by omega)
    generalize TL.numL y.toNat = u at lk
    refine r_addS (by omega) ?_
    have hs2 : (w2 ++ u).length ≤ 30 := by rw [List.length_append]; omega
    generalize w2 ++ u = s2 at hs2
    clear lk n0 n1 n2 hw2 hxx2 hj2 ej2 a2 lx2' lx2 hx2 np2
    clear u y j2 xs2 p2
    walk_at "s"
    refine k_op (k_op (k_lstW ?_))
    walk_at "ks"
    refine ⟨by decide +kernel, by decide, fun xs3 p3 hx3 lx3 np3 => ?_⟩
    have lx3' : xs3.length = 2 := lx3
    have e3 := e2.trans (Ex.new (o := .lst xs3) np3)
    have a3 : (upd H2 p3 (.lst xs3)) p3 = some (.lst xs3) := upd_same
    generalize upd H2 p3 (.lst xs3) = H3 at e3 a3
    walk_at "ks"
    refine c_intB ?_
    obtain ⟨j3, ej3, hj3⟩ : ∃ j : Nat, (if decide (5 < m % 8) = true then (1 : Int) else 0) = (j : Int) ∧ j < 2 := by
      split
      · exact ⟨1, rfl, by decide⟩
      · exact ⟨0, rfl, by decide⟩
    rw [ej3]
    obtain ⟨x3, hxx3⟩ : ∃ x, xs3[j3]? = some x := ⟨_, List.getElem?_eq_getElem (by omega)⟩
    refine r_ixL (sq_of a3) (atI_nat hxx3) ?_
    obtain ⟨w3, rfl, hw3⟩ := chk_of (List.all_eq_true.mp hx3 x3 (List.mem_of_getElem? hxx3))
    walk_at "ks"
    have n0 := Int.emod_nonneg (c * 5915587277) (show (10 ^ Int.toNat 9 : Int) ≠ 0 by decide +kernel)
    have n1 := Int.emod_lt_of_pos (c * 5915587277) (show (0 : Int) < 10 ^ Int.toNat 9 by decide +kernel)
    generalize c * 5915587277 % 10 ^ Int.toNat 9 = y at n0 n1
    have n2 : (10 ^ Int.toNat 9 : Int) ≤ (10 ^ 9 : Nat) := by decide +kernel
    refine c_strI n0 (Bd.mono (n := 40) (Bd.le (j := (10 ^ 9 : Nat)) (by omega) (by unfold Bd; decide +kernel)) (by decide)) ?_
    have lk := TL.numL_len (n := y.toNat) (k := 9) (by decide) (by omega)
    generalize TL.numL y.toNat = u at lk
    refine r_addS (by omega) ?_
    have hs3 : (w3 ++ u).length ≤ 30 := by rw [List.length_append]; omega
    generalize w3 ++ u = s3 at hs3
    clear lk n0 n1 n2 hw3 hxx3 hj3 ej3 a3 lx3' lx3 hx3 np3
    clear u y j3 xs3 p3
    refine gs_mid (fun σ' H' => ∃ s3 : List Nat, s3.length ≤ 90 ∧ σ' = [some (.int c), some (.int m), some (.str (SX.S s1)), some (.str (SX.S s2)), some (.str (SX.S s3))] ∧ Ex H H') ?_ ?_
    · walk_at "s"; walk_at "ks"
      refine ⟨fun hb => ?_, fun hb => ?_⟩
      rotate_left
      · exact g1_next fun H7 e7 => ⟨_, e7, s3, by omega, rfl, e3⟩
      walk_at "s"; walk_at "ks"
      refine ⟨(by show 2 ≤ 100000; decide), fun p np => ?_⟩
      walk_at "ks"
      have k0 := Int.emod_nonneg (m / 24) (show (2 : Int) ≠ 0 by decide)
      have k1 := Int.emod_lt_of_pos (m / 24) (show (0 : Int) < 2 by decide)
      generalize m / 24 % 2 = kd at k0 k1
      have hmost : ∃ most : Int, 0 ≤ most ∧ most ≤ 10 ^ 61 ∧ atI [V.int (10 ^ Int.toNat 60), V.int (10 ^ Int.toNat 61)] kd = some (.int most) := by
        have hk : kd = 0 ∨ kd = 1 := by omega
        rcases hk with rfl | rfl
        · exact ⟨_, by decide +kernel, by decide +kernel, rfl⟩
        · exact ⟨_, by decide +kernel, by decide +kernel, rfl⟩
      obtain ⟨most, h1, h2, h3⟩ := hmost
      refine r_ixL (sq_of upd_same) h3 ?_
      have e4 := e3.trans (Ex.new (o := .lst [V.int (10 ^ Int.toNat 60), V.int (10 ^ Int.toNat 61)]) np)
      generalize upd H3 p (.lst [V.int (10 ^ Int.toNat 60), V.int (10 ^ Int.toNat 61)]) = H4 at e4
      walk_at "ks"
      have r0 := Int.emod_nonneg c (show (10 : Int) ^ Int.toNat 60 ≠ 0 by decide +kernel)
      have r1 := Int.emod_lt_of_pos c (show (0 : Int) < 10 ^ Int.toNat 60 by decide +kernel)
      have r2 : (10 : Int) ^ Int.toNat 60 ≤ 10 ^ 61 := by decide +kernel
      generalize c % 10 ^ Int.toNat 60 = y at r0 r1
      have r3 : most + y ≤ ((10 ^ 61 : Nat) : Int) + ((10 ^ 61 : Nat) : Int) := by
        have e61 : ((10 : Int) ^ 61) = ((10 ^ 61 : Nat) : Int) := by decide +kernel
        rw [e61] at h2 r2
        omega
      have r4 : ((10 ^ 61 : Nat) : Int) + ((10 ^ 61 : Nat) : Int) < ((10 ^ 62 : Nat) : Int) := by decide +kernel
      have r5 : 0 ≤ most + y := by omega
      generalize most + y = z at r3 r5
      have hz : z < ((10 ^ 62 : Nat) : Int) := Int.lt_of_le_of_lt r3 r4
      clear r3 r4 r0 r1 r2 h1 h2 h3
      refine c_strI r5 (Bd.mono (n := 207) (Bd.le (j := ((10 ^ 62 : Nat) : Int)) (by omega) (by unfold Bd; decide +kernel)) (by decide)) ?_
      have lk := TL.numL_len (n := z.toNat) (k := 62) (by decide) (by omega)
      exact fun H7 e7 => ⟨_, e7, _, by omega, rfl, e4⟩
    clear hs3 e3 e2 e1
    clear s3 H3 H2 H1
    rintro σ' H1 ⟨s3, hs3, rfl, e1⟩
    refine gs_mid (fun σ' H' => ∃ s3 : List Nat, s3.length ≤ 90 ∧ σ' = [some (.int c), some (.int m), some (.str (SX.S s1)), some (.str (SX.S s2)), some (.str (SX.S s3))] ∧ Ex H H') ?_ ?_
    · walk_at "s"; walk_at "ks"
      refine ⟨fun hb => ?_, fun hb => ?_⟩
      rotate_left
      · exact g1_next fun H7 e7 => ⟨_, e7, s3, by omega, rfl, e1⟩
      walk_at "s"; walk_at "ks"
      have r0 := Int.emod_nonneg c (show (4 : Int) ≠ 0 by decide)
      have r1 := Int.emod_lt_of_pos c (show (0 : Int) < 4 by decide)
      generalize c % 4 = y at r0 r1
      refine c_strI r0 (Bd.mono (n := 7) (by unfold Bd; omega) (by decide)) ?_
      have lk := TL.numL_len (n := y.toNat) (k := 1) (by decide) (by omega)
      exact fun H7 e7 => ⟨_, e7, _, by omega, rfl, e1⟩
    clear hs3 e1
    clear s3 H1
    rintro σ' H1 ⟨s3, hs3, rfl, e1⟩
    walk_at "s"; walk_at "ks"
    refine r_addL lit_gt (by show _ + 1 ≤ _; omega) ?_
    walk_at "ks"
    refine r_addS (by rw [List.length_append]; show _ + 1 + _ ≤ _; omega) ?_
    walk_at "ks"
    refine r_addL lit_col (by rw [List.length_append, List.length_append]; show _ + 1 + _ + 1 ≤ _; omega) ?_
    walk_at "ks"
    refine r_addS (by rw [List.length_append, List.length_append, List.length_append]; show _ + 1 + _ + 1 + _ ≤ _; omega) ?_
    refine q _ H1 e1 ?_
    simp only [List.length_append, List.length_cons, List.length_nil]
    omega
theorem ok_Lgood {C_PurseError C_NoGift C_Unlike C_Gap C_NoText : Addr} {tok : Tok} (T : TxtX K mg C_PurseError C_NoGift C_Unlike C_Gap C_NoText tok) {f : Addr} {fd : FuncData} (F : Fun K "_law_good" "_law_good" s_Lgood f fd) (B : Bl mg) {f_Lgift : Addr} {fd_Lgift : FuncData} (c_Lgift : Cl P w K mg base CX0 1 "_law_gift" f_Lgift fd_Lgift ["_law_cell"] (spLgift K)) {f_Lwritten : Addr} {fd_Lwritten : FuncData} (c_Lwritten : Cl P w K mg base CX0 1 "_law_written" f_Lwritten fd_Lwritten ["_law_gift_here"] (spLwritten K)) : FnOk P w K mg base CX0 2 f fd ["_law_cell", "_law_mixed"] (spLgood K) := by
  refine F.ok sc_Lgood (fun vs H Q E h => ?_) (fun cdv A outer s H vs Q E hr h => ?_)
  · obtain ⟨c, m, rfl, _⟩ := h
    rfl
  · obtain ⟨c, m, rfl, bc, q⟩ := h
    refine ⟨_, (pss_cons (ps_set (i := 2) sc_Lgood.nd rfl (Or.inl rfl) (pe_call c_Lwritten.ok (hr.mono (by decide)) (by rfl) c_Lwritten.gl c_Lwritten.kp c_Lwritten.bd .nil pass0 (pa_cons (pe_call c_Lgift.ok (hr.mono (by decide)) (by rfl) c_Lgift.gl c_Lgift.kp c_Lgift.bd .nil pass0 (pa_cons (pv 0) pa_nil)) pa_nil)))
      (Evl.pss_cut (ps_if (pt_cmpR op_eq (pe_op op_mod (pv 1) pe_int) pe_int (nomark _)) (pss_cons (ps_set (i := 3) sc_Lgood.nd rfl (Or.inl rfl) (pe_call c_Lgift.ok (hr.mono (by decide)) (by rfl) c_Lgift.gl c_Lgift.kp c_Lgift.bd .nil pass0 (pa_cons (pe_op op_add (pe_op op_fdiv (pv 0) pe_int) pe_int) pa_nil)))
      (pss_one (ps_set (i := 2) sc_Lgood.nd rfl (Or.inl rfl) (pe_op op_add_str (pe_op op_add_str (pv 2) pe_str) (pe_call c_Lwritten.ok (hr.mono (by decide)) (by rfl) c_Lwritten.gl c_Lwritten.kp c_Lwritten.bd .nil pass0 (pa_cons (pe_tup (pa_cons (pe_ix (ixt (K := K)) (pv 3) pe_int (fun _ _ => rfl)) (pa_cons (pe_ix (ixt (K := K)) (pv 3) pe_int (fun _ _ => rfl)) (pa_cons (pe_op op_add pe_int (pe_op op_mod (pe_ix (ixt (K := K)) (pv 3) pe_int (fun _ _ => rfl)) pe_int)) pa_nil)))) pa_nil)))))) pss_nil)
      (pss_one (ps_ret (pv 2))))), Go.here ?_⟩
    walk_at "s"; walk_at "ks"
    refine k_Lgift (bc.mono (by decide)) fun z p H1 gd e1 np hp => ?_
    walk_at "ks"
    refine k_Lwritten (st_of hp) gd fun l l0 l1 => ?_
    refine gs_mid (fun σ' H' => ∃ (l : List Nat) (v : Option V), 0 < l.length ∧ l.length ≤ 150 ∧ σ' = [some (.int c), some (.int m), some (.str (SX.S l)), v] ∧ Ex H H') ?_ ?_
    · walk_at "s"; walk_at "ks"
      refine ⟨fun hb => ?_, fun hb => ?_⟩
      rotate_left
      · exact g1_next fun H7 e7 => ⟨_, e7, l, _, l0, by omega, rfl, e1⟩
      walk_at "s"; walk_at "ks"
      have bc3 : Bd 1048580 (c / 3 + 1) := Bd.mono (by walk_at "bd") (by decide +kernel)
      refine k_Lgift bc3 fun z2 p2 H2 gd2 e2 np2 hp2 => ?_
      walk_at "s"; walk_at "ks"
      refine r_addL lit_sp (by show _ + 1 ≤ _; omega) ?_
      walk_at "ks"
      refine r_ixT (v := .int z2.1) (st_of hp2) rfl ?_
      walk_at "ks"
      refine r_ixT (v := .int z2.2.1) (st_of hp2) rfl ?_
      walk_at "ks"
      refine r_ixT (v := .int z2.2.2) (st_of hp2) rfl ?_
      walk_at "ks"
      refine ⟨(by show 3 ≤ 100000; decide), fun r nr => ?_⟩
      have r0 := Int.emod_nonneg z2.2.2 (show (1000 : Int) ≠ 0 by decide)
      have r1 := Int.emod_lt_of_pos z2.2.2 (show (0 : Int) < 1000 by decide)
      have big : (1001 : Int) < 10 ^ 61 := by decide +kernel
      have gd3 : Pn.Gd (z2.1, z2.2.1, 1 + z2.2.2 % 1000) := ⟨gd2.g0, gd2.g1, gd2.t0, gd2.t1, gd2.ne, by show 1 ≤ 1 + z2.2.2 % 1000; omega, by show 1 + z2.2.2 % 1000 < 10 ^ 61; omega⟩
      walk_at "ks"
      refine k_Lwritten (z := (z2.1, z2.2.1, 1 + z2.2.2 % 1000)) (st_of upd_same) gd3 fun l2 l20 l21 => ?_
      refine r_addS (by rw [List.length_append]; show _ + 1 + _ ≤ _; omega) ?_
      exact fun H7 e7 => ⟨_, e7, _, _, by rw [List.length_append]; omega, by rw [List.length_append, List.length_append]; show _ + 1 + _ ≤ _; omega, rfl, (e1.trans e2).trans (Ex.new nr)⟩
    rintro σ' H' ⟨l, v, l0, l1, rfl, e⟩
    walk_at "s"; walk_at "ks"
    exact q l H' e l0 l1
theorem ok_Lsigns {C_PurseError C_NoGift C_Unlike C_Gap C_NoText : Addr} {tok : Tok} (T : TxtX K mg C_PurseError C_NoGift C_Unlike C_Gap C_NoText tok) {f : Addr} {fd : FuncData} (F : Fun K "_law_signs" "_law_signs" s_Lsigns f fd) (B : Bl mg) {f_Lfigures : Addr} {fd_Lfigures : FuncData} (c_Lfigures : Cl P w K mg base CX0 1 "_law_figures" f_Lfigures fd_Lfigures ["_law_cell", "_law_mixed"] (spLfigures K)) {f_Lgood : Addr} {fd_Lgood : FuncData} (c_Lgood : Cl P w K mg base CX0 2 "_law_good" f_Lgood fd_Lgood ["_law_cell", "_law_mixed"] (spLgood K)) {f_Lodd : Addr} {fd_Lodd : FuncData} (c_Lodd : Cl P w K mg base CX0 1 "_law_odd" f_Lodd fd_Lodd ["_law_cell"] (spLodd K)) {f_Lsign : Addr} {fd_Lsign : FuncData} (c_Lsign : Cl P w K mg base CX0 1 "_law_sign" f_Lsign fd_Lsign ["_law_cell"] (spLsign K)) : FnOk P w K mg base CX0 3 f fd ["_law_cell"] (spLsigns K) := by
  refine F.ok sc_Lsigns (fun vs H Q E h => ?_) (fun cdv A outer s H vs Q E hr h => ?_)
  · obtain ⟨c, rfl, _⟩ := h
    rfl
  · obtain ⟨c, rfl, bc, q⟩ := h
    refine ⟨_, (pss_cons (ps_set (i := 1) sc_Lsigns.nd rfl (Or.inl rfl) (pe_op op_mod (pe_op op_mulX (pv 0) pe_int) pe_int))
      (pss_cons (ps_set (i := 2) sc_Lsigns.nd rfl (Or.inl rfl) (pe_op op_mod (pv 1) pe_int))
      (pss_cons (ps_set (i := 1) sc_Lsigns.nd rfl (Or.inl rfl) (pe_op op_fdiv (pv 1) pe_int))
      (pss_cons (ps_if (pt_cmpR op_eq (pv 2) pe_int (nomark _)) (pss_one (ps_ret (pe_call c_Lodd.ok (hr.mono (by decide)) (by rfl) c_Lodd.gl c_Lodd.kp c_Lodd.bd .nil pass0 (pa_cons (pv 1) pa_nil)))) pss_nil)
      (pss_cons (ps_if (pt_cmpR op_eq (pv 2) pe_int (nomark _)) (pss_one (ps_ret (pe_call c_Lfigures.ok (hr.mono (by decide)) (by rfl) c_Lfigures.gl c_Lfigures.kp c_Lfigures.bd .nil pass0 (pa_cons (pv 0) (pa_cons (pv 1) pa_nil))))) pss_nil)
      (pss_cons (ps_set (i := 3) sc_Lsigns.nd rfl (Or.inl rfl) (pe_call c_Lgood.ok (hr.mono (by decide)) (by rfl) c_Lgood.gl c_Lgood.kp c_Lgood.bd .nil pass0 (pa_cons (pv 0) (pa_cons (pv 1) pa_nil))))
      (Evl.pss_cut (ps_if (PW.pt (pw_and (pt_cmpR op_eq (pv 2) pe_int (nomark _)) (pw_and1 (pt_cmpR op_eq (pe_op op_mod (pe_op op_fdiv (pv 1) pe_int) pe_int) pe_int (nomark _))))) (pss_one (ps_ret (pe_op op_add_str (pe_op op_add_str (pe_call c_Lodd.ok (hr.mono (by decide)) (by rfl) c_Lodd.gl c_Lodd.kp c_Lodd.bd .nil pass0 (pa_cons (pe_op op_fdiv (pv 1) pe_int) pa_nil)) pe_str) (pv 3)))) pss_nil)
      (pss_cons (ps_if (pt_cmpR op_eq (pv 2) pe_int (nomark _)) (pss_one (ps_ret (pe_op op_add_str (pe_op op_add_str (pv 3) pe_str) (pe_call c_Lodd.ok (hr.mono (by decide)) (by rfl) c_Lodd.gl c_Lodd.kp c_Lodd.bd .nil pass0 (pa_cons (pe_op op_fdiv (pv 1) pe_int) pa_nil))))) pss_nil)
      (Evl.pss_cut (ps_if (PW.pt (pw_or (pt_cmpR op_eq (pv 2) pe_int (nomark _)) (pw_or1 (pt_cmpR op_eq (pv 2) pe_int (nomark _))))) (pss_cons (ps_set (i := 4) sc_Lsigns.nd rfl (Or.inl rfl) (pe_op op_mod (pe_op op_fdiv (pv 1) pe_int) (pe_op op_add (pe_callB call_len_str (by rfl) B.len_ boot_len (pa_cons (pv 3) pa_nil)) pe_int)))
      (pss_one (ps_ret (pe_op op_add_str (pe_op op_add_str (pe_slice C8.sl_txt (pv 3) po_none (po_some (pv 4))) (pe_call c_Lsign.ok (hr.mono (by decide)) (by rfl) c_Lsign.gl c_Lsign.kp c_Lsign.bd .nil pass0 (pa_cons (pe_op op_fdiv (pv 1) pe_int) pa_nil))) (pe_slice C8.sl_txt (pv 3) (po_some (pv 4)) po_none))))) pss_nil)
      (pss_cons (ps_set (i := 4) sc_Lsigns.nd rfl (Or.inl rfl) (pe_op op_mod (pe_op op_fdiv (pv 1) pe_int) (pe_callB call_len_str (by rfl) B.len_ boot_len (pa_cons (pv 3) pa_nil))))
      (pss_cons (ps_if (pt_cmpR op_eq (pv 2) pe_int (nomark _)) (pss_one (ps_ret (pe_op op_add_str (pe_slice C8.sl_txt (pv 3) po_none (po_some (pv 4))) (pe_slice C8.sl_txt (pv 3) (po_some (pe_op op_add (pv 4) pe_int)) po_none)))) pss_nil)
      (pss_cons (ps_if (pt_cmpR op_eq (pv 2) pe_int (nomark _)) (pss_one (ps_ret (pe_op op_add_str (pe_op op_add_str (pe_slice C8.sl_txt (pv 3) po_none (po_some (pv 4))) (pe_call c_Lsign.ok (hr.mono (by decide)) (by rfl) c_Lsign.gl c_Lsign.kp c_Lsign.bd .nil pass0 (pa_cons (pe_op op_fdiv (pv 1) pe_int) pa_nil))) (pe_slice C8.sl_txt (pv 3) (po_some (pe_op op_add (pv 4) pe_int)) po_none)))) pss_nil)
      (pss_one (ps_ret (pv 3))))))))))))))), Go.here ?_⟩
    walk_at "s"; walk_at "ks"
    generalize c * 630360016 % 2147483629 = mx
    walk_at "s"; walk_at "ks"
    generalize mx % 8 = kd
    walk_at "s"; walk_at "ks"
    generalize mx / 8 = m
    walk_at "s"; walk_at "ks"
    refine ⟨fun hb => ?_, fun hb => ?_⟩
    · walk_at "s"; walk_at "ks"
      exact k_Lodd fun l H1 e1 hl => q l H1 e1 (by omega)
    walk_at "s"; walk_at "ks"
    refine ⟨fun hb => ?_, fun hb => ?_⟩
    · walk_at "s"; walk_at "ks"
      exact k_Lfigures bc fun l H1 e1 hl => q l H1 e1 hl
    walk_at "s"; walk_at "ks"
    refine k_Lgood bc fun g H1 e1 g0 g1 => ?_
    refine gs_mid (fun σ' H' => σ' = [some (.int c), some (.int m), some (.int kd), some (.str (SX.S g)), none] ∧ H1 = H') ?_ ?_
    · walk_at "s"; walk_at "ks"
      refine ⟨fun hb => ?_, fun hb => ⟨fun h => Bool.noConfusion h, fun _ => g1_next fun H7 e7 => ⟨_, e7, rfl, rfl⟩⟩⟩
      walk_at "ks"
      refine ⟨fun hb => ?_, fun hb => g1_next fun H7 e7 => ⟨_, e7, rfl, rfl⟩⟩
      walk_at "s"; walk_at "ks"
      refine k_Lodd fun o H2 e2 ho => ?_
      walk_at "ks"
      refine r_addL lit_sp (by show _ + 1 ≤ _; omega) ?_
      walk_at "ks"
      refine r_addS (by rw [List.length_append]; show _ + 1 + _ ≤ _; omega) ?_
      exact q _ H2 (e1.trans e2) (by rw [List.length_append, List.length_append]; show _ + 1 + _ ≤ _; omega)
    rintro σ' H' ⟨rfl, rfl⟩
    walk_at "s"; walk_at "ks"
    refine ⟨fun hb => ?_, fun hb => ?_⟩
    · walk_at "s"; walk_at "ks"
      refine r_addL lit_sp (by show _ + 1 ≤ _; omega) ?_
      walk_at "ks"
      refine k_Lodd fun o H2 e2 ho => ?_
      refine r_addS (by rw [List.length_append]; show _ + 1 + _ ≤ _; omega) ?_
      exact q _ H2 (e1.trans e2) (by rw [List.length_append, List.length_append]; show _ + 1 + _ ≤ _; omega)
    have tk : ∀ n : Nat, (g.take n).length ≤ 150 := fun n => by rw [List.length_take]; omega
    have dr : ∀ n : Nat, (g.drop n).length ≤ 150 := fun n => by rw [List.length_drop]; omega
    refine gs_mid (fun σ' H' => σ' = [some (.int c), some (.int m), some (.int kd), some (.str (SX.S g)), none] ∧ H1 = H') ?_ ?_
    · walk_at "s"; walk_at "ks"
      have br : ∀ D : Ends, D.rt = Q → Go (tSeq (tAsg (tOp (rI (fun _ j => 0 < j) fun i j => V.int (i % j)) (tOp (rI CDiv fun i j => V.int (i / j)) (tVar 1) (tC (V.int 188))) (tOp (rI0 fun i j => V.int (i + j)) (tCB (fun xs H Q => ∃ z, xs = [V.str z] ∧ z.length ≤ sizeLine ∧ Q (V.int ↑z.length) H) (tCons (tVar 3) tNil)) (tC (V.int 1)))) (gName 4)) (tRet (tOp (fun x y H Q => ∃ i j, x = V.str i ∧ y = V.str j ∧ i.length + j.length ≤ sizeLine ∧ Q (V.str (i ++ j)) H) (tOp (fun x y H Q => ∃ i j, x = V.str i ∧ y = V.str j ∧ i.length + j.length ≤ sizeLine ∧ Q (V.str (i ++ j)) H) (tSl C8.rSlX (tVar 3) tNoPart (tPart (tVar 4))) (tCall (spLsign K) [] E0 (tCons (tOp (rI CDiv fun i j => V.int (i / j)) (tVar 1) (tC (V.int 2))) tNil))) (tSl C8.rSlX (tVar 3) (tPart (tVar 4)) tNoPart)))) D [some (.int c), some (.int m), some (.int kd), some (.str (SX.S g)), none] H1 := fun D hD => by
        walk_at "s"; walk_at "ks"
        refine c_lenS (by omega) ?_
        walk_at "ks"
        have a0 := Int.emod_nonneg (m / 188) (show ((g.length : Int) + 1) ≠ 0 by omega)
        generalize m / 188 % ((g.length : Int) + 1) = at' at a0
        walk_at "s"; walk_at "ks"
        refine sl_to a0 (by omega) ?_
        walk_at "ks"
        refine k_Lsign fun x => ?_
        have h1 := tk at'.toNat
        have h2 := dr at'.toNat
        refine r_addS (by show _ + 1 ≤ _; omega) ?_
        walk_at "ks"
        refine sl_from a0 (by omega) ?_
        refine r_addS (by rw [List.length_append]; show _ + 1 + _ ≤ _; omega) ?_
        show ∀ H7, Ex H1 H7 → D.rt _ H7
        rw [hD]
        exact q _ H1 e1 (by rw [List.length_append, List.length_append]; show _ + 1 + _ ≤ _; omega)
      refine ⟨fun hb => ⟨fun _ => br _ rfl, fun h => Bool.noConfusion h⟩, fun hb => ?_⟩
      walk_at "ks"
      exact ⟨fun hb => br _ rfl, fun hb => g1_next fun H7 e7 => ⟨_, e7, rfl, rfl⟩⟩
    rintro σ' H' ⟨rfl, rfl⟩
    walk_at "s"; walk_at "ks"
    refine c_lenS (by omega) ?_
    walk_at "ks"
    have a0 := Int.emod_nonneg (m / 188) (show (g.length : Int) ≠ 0 by omega)
    have a1 := Int.emod_lt_of_pos (m / 188) (show (0 : Int) < (g.length : Int) by omega)
    generalize m / 188 % (g.length : Int) = at' at a0 a1
    have h1 := tk at'.toNat
    have h2 := dr (at' + 1).toNat
    walk_at "s"; walk_at "ks"
    refine ⟨fun hb => ?_, fun hb => ?_⟩
    · walk_at "s"; walk_at "ks"
      refine sl_to a0 (by omega) ?_
      walk_at "ks"
      refine sl_from (by omega) (by omega) ?_
      refine r_addS (by omega) ?_
      exact q _ H1 e1 (by rw [List.length_append]; omega)
    walk_at "s"; walk_at "ks"
    refine ⟨fun hb => ?_, fun hb => ?_⟩
    · walk_at "s"; walk_at "ks"
      refine sl_to a0 (by omega) ?_
      walk_at "ks"
      refine k_Lsign fun x => ?_
      refine r_addS (by show _ + 1 ≤ _; omega) ?_
      walk_at "ks"
      refine sl_from (by omega) (by omega) ?_
      refine r_addS (by rw [List.length_append]; show _ + 1 + _ ≤ _; omega) ?_
      exact q _ H1 e1 (by rw [List.length_append, List.length_append]; show _ + 1 + _ ≤ _; omega)
    walk_at "s"; walk_at "ks"
    exact q g H1 e1 (by omega)
theorem ok_Lnumber {C_PurseError C_NoGift C_Unlike C_Gap C_NoText : Addr} {tok : Tok} (T : TxtX K mg C_PurseError C_NoGift C_Unlike C_Gap C_NoText tok) {f : Addr} {fd : FuncData} (F : Fun K "_law_number" "_law_number" s_Lnumber f fd) (B : Bl mg) : FnOk P w K mg base CX0 1 f fd ["_law_signs_here", "_law_most"] (spLnumber K) := by
  refine F.ok sc_Lnumber (fun vs H Q E h => ?_) (fun cdv A outer s H vs Q E hr h => ?_)
  · obtain ⟨l, m, rfl, _⟩ := h
    rfl
  · obtain ⟨l, m, rfl, hl, hm, q⟩ := h
    have bad : Pz.ok l m = false → KQ Q (.int (-1)) H := fun h => by
      have e : Pz.numI l m = -1 := by unfold Pz.numI Pz.num; rw [h]; rfl
      rw [e] at q
      exact q
    refine ⟨_, (pss_cons (ps_if (PW.pt (pw_or (pt_cmpR op_eq (pv 0) pe_str (nomark _)) (pw_or (pt_cmpR op_gt (pe_callB call_len_str (by rfl) B.len_ boot_len (pa_cons (pv 0) pa_nil)) (pv 1) (nomark _)) (pw_or1 (PW.pt (pw_and (pt_cmpR op_gt (pe_callB call_len_str (by rfl) B.len_ boot_len (pa_cons (pv 0) pa_nil)) pe_int (nomark _)) (pw_and1 (pt_cmpR op_eq (pe_ix ix_str (pv 0) pe_int (fun _ _ => rfl)) pe_str (nomark _))))))))) (pss_one (ps_ret (pe_un un_neg pe_int))) pss_nil)
      (pss_cons (ps_set (i := 2) sc_Lnumber.nd rfl (Or.inl rfl) pe_int)
      (pss_cons (ps_for PassesOwn.never rfl (pi_str (pv 0)) (pg_name (i := 3) sc_Lnumber.nd rfl (Or.inl rfl)) (pss_cons (ps_set (i := 4) sc_Lnumber.nd rfl (Or.inl rfl) (pe_m1 PySem.F.slot_str_find PySem.F.type_str_find mt_find pe_str (pv 3)))
      (pss_cons (ps_if (pt_cmpR op_lt (pv 4) pe_int (nomark _)) (pss_one (ps_ret (pe_un un_neg pe_int))) pss_nil)
      (pss_one (ps_set (i := 2) sc_Lnumber.nd rfl (Or.inl rfl) (pe_op op_add (pe_op op_mulX pe_int (pv 2)) (pv 4)))))))
      (pss_one (ps_ret (pv 2)))))), Go.here ?_⟩
    walk_at "s"; walk_at "ks"
    refine r_eqL lit_e ?_
    walk_at "ks"
    refine ⟨fun hb => ⟨fun _ => ?_, fun h => Bool.noConfusion h⟩, fun hb => ?_⟩
    · have h0 := of_decide_eq_true hb
      walk_at "s"; walk_at "ks"
      exact bad (by rw [h0]; rfl)
    have h0 := of_decide_eq_false hb
    have c1 : 1 ≤ l.length := by
      cases l with
      | nil => exact absurd rfl h0
      | cons x r => rw [List.length_cons]; omega
    walk_at "ks"
    refine c_lenS (by omega) ?_
    walk_at "ks"
    by_cases c2 : l.length ≤ m
    rotate_left
    · rw [decide_eq_true (by omega)]
      refine ⟨fun _ => ⟨fun _ => ?_, fun h => Bool.noConfusion h⟩, fun h => Bool.noConfusion h⟩
      walk_at "s"; walk_at "ks"
      exact bad (by unfold Pz.ok; rw [decide_eq_false c2, Bool.and_false]; rfl)
    rw [decide_eq_false (by omega)]
    refine ⟨fun h => Bool.noConfusion h, fun _ => ?_⟩
    walk_at "ks"
    refine c_lenS (by omega) ?_
    walk_at "ks"
    obtain ⟨c, r, ec⟩ : ∃ c r, l = c :: r := by
      cases e : l with
      | nil => exact absurd e h0
      | cons x r => exact ⟨x, r, rfl⟩
    have okb : Pz.ok l m = (l.all (fun c => decide (c ∈ Pn.fig)) && !(decide (l.head? = some 48) && decide (1 < l.length))) := by
      unfold Pz.ok
      rw [decide_eq_true c1, decide_eq_true c2]
      rfl
    have rest : (decide (l.head? = some 48) && decide (1 < l.length)) = false → Go (tSeq (tAsg (tC (.int 0)) (gName 2)) (tSeq (tFor (iStr (tVar 0)) (gName 3) (tSeq (tAsg (tM1 (fun x xs H Q => ∃ a b, x = V.str a ∧ xs = [V.str b] ∧ Q (V.int (Txt.find a b)) H) (tC (V.str (Str.ofString "0123456789"))) (tVar 3)) (gName 4)) (tSeq (tIfS (tTest (tOp (rI0 fun i j => V.bl (decide (i < j))) (tVar 4) (tC (V.int 0)))) (tRet (tUn (rU fun i => V.int (-i)) (tC (V.int 1)))) tNext) (tAsg (tOp (rI0 fun i j => V.int (i + j)) (tOp (rI CMulX fun i j => V.int (i * j)) (tC (V.int 10)) (tVar 2)) (tVar 4)) (gName 2))))) (tRet (tVar 2)))) { nx := fun _ H' => Q .non H', rt := Q } (L2.start n_Lnumber [V.str (SX.S l), V.int (m : Int)]) H := fun hz => by
      walk_at "s"; walk_at "ks"
      refine gs_forS ?_
      walk_at "ks"
      refine ⟨l, fun i σ' H' => ∃ v3 v4 : Option V, σ' = [some (.str (SX.S l)), some (.int (m : Int)), some (.int (NumText.digitsVal (l.take i) : Int)), v3, v4] ∧ H = H' ∧ ∀ c ∈ l.take i, c ∈ Pn.fig, rfl, ⟨none, none, rfl, rfl, fun c h => by cases h⟩, ?_, ?_⟩
      · rintro i x σ' H' hx ⟨v3, v4, rfl, rfl, hf⟩
        have hb' := Pz.dv_lt hf
        have hlt : i < l.length := (List.getElem?_eq_some_iff.mp hx).1
        have hb2 : NumText.digitsVal (l.take i) < 10 ^ 61 := Nat.lt_of_lt_of_le hb' (Nat.pow_le_pow_right (by decide) (by rw [List.length_take]; omega))
        have bt : Bd 210 (NumText.digitsVal (l.take i) : Int) := Bd.mono (n := 203) (Bd.le (j := ((10 ^ 61 : Nat) : Int)) (by omega) (by unfold Bd; decide +kernel)) (by decide)
        walk_at "s"
        refine k_m1 ?_
        walk_at "ks"
        refine ⟨⟨_, rfl⟩, ?_⟩
        walk_at "ks"
        refine m_find Pz.lit_fig ?_
        walk_at "s"; walk_at "ks"
        by_cases c3 : x ∈ Pn.fig
        rotate_left
        · rw [if_neg c3]
          refine ⟨fun _ => ?_, fun h => Bool.noConfusion h⟩
          walk_at "s"; walk_at "ks"
          exact bad (by rw [okb, show l.all (fun c => decide (c ∈ Pn.fig)) = false from by
            rw [List.all_eq_false]
            exact ⟨x, List.mem_of_getElem? hx, by rw [decide_eq_false c3]; exact Bool.false_ne_true⟩]; rfl)
        rw [if_pos c3, decide_eq_false (by omega)]
        refine ⟨fun h => Bool.noConfusion h, fun _ => ?_⟩
        walk_at "s"; walk_at "ks"
        refine fun H1 e1 => ⟨_, e1, some (.str (SX.S [x])), some (.int ((x - 48 : Nat) : Int)), ?_, rfl, fun y hy => ?_⟩
        · have ed : (10 : Int) * (NumText.digitsVal (l.take i) : Int) + ((x - 48 : Nat) : Int) = (NumText.digitsVal (l.take (i + 1)) : Int) := by
            rw [Pm.take_more hx, Pz.dv_snoc, Int.natCast_add, Int.natCast_mul]
            omega
          rw [ed]
          rfl
        · rw [Pm.take_more hx] at hy
          rcases List.mem_append.mp hy with h | h
          · exact hf y h
          · rw [List.mem_singleton.mp h]
            exact c3
      · rintro σ' H' ⟨v3, v4, rfl, rfl, hf⟩
        rw [List.take_length] at hf
        rw [List.take_length]
        walk_at "s"; walk_at "ks"
        have ok1 : Pz.ok l m = true := by
          rw [okb, hz, show l.all (fun c => decide (c ∈ Pn.fig)) = true from List.all_eq_true.mpr fun c hc => decide_eq_true (hf c hc)]
          rfl
        have en : Pz.numI l m = (NumText.digitsVal l : Int) := by unfold Pz.numI Pz.num; rw [if_pos ok1]
        rw [en] at q
        exact q
    by_cases c4 : 1 < l.length
    · rw [decide_eq_true (by omega)]
      refine ⟨fun _ => ?_, fun h => Bool.noConfusion h⟩
      walk_at "ks"
      refine r_ixS (c := c) (by omega) (atI_nat (j := 0) (by rw [ec]; rfl)) ?_
      walk_at "ks"
      refine r_eqL lit_0 ?_
      walk_at "ks"
      by_cases c5 : c = 48
      · rw [decide_eq_true (by rw [c5])]
        refine ⟨fun _ => ?_, fun h => Bool.noConfusion h⟩
        walk_at "s"; walk_at "ks"
        exact bad (by rw [okb, show decide (l.head? = some 48) = true from by rw [ec, c5]; rfl, decide_eq_true c4, Bool.and_comm]; rfl)
      · rw [decide_eq_false (fun h => c5 (List.cons.inj h).1)]
        refine ⟨fun h => Bool.noConfusion h, fun _ => ?_⟩
        exact rest (by rw [show decide (l.head? = some 48) = false from decide_eq_false (by rw [ec]; exact fun e => c5 (Option.some.inj e))]; rfl)
    · rw [decide_eq_false (by omega)]
      refine ⟨fun h => Bool.noConfusion h, fun _ => ⟨fun h => Bool.noConfusion h, fun _ => ?_⟩⟩
      exact rest (by rw [decide_eq_false c4, Bool.and_false])
theorem ok_Ldue {C_PurseError C_NoGift C_Unlike C_Gap C_NoText : Addr} {tok : Tok} (T : TxtX K mg C_PurseError C_NoGift C_Unlike C_Gap C_NoText tok) {f : Addr} {fd : FuncData} (F : Fun K "_law_due" "_law_due" s_Ldue f fd) (B : Bl mg) {f_Lnumber : Addr} {fd_Lnumber : FuncData} (c_Lnumber : Cl P w K mg base CX0 1 "_law_number" f_Lnumber fd_Lnumber ["_law_signs_here", "_law_most"] (spLnumber K)) : FnOk P w K mg base CX0 2 f fd ["_law_signs_here"] (spLdue K) := by
  refine F.ok sc_Ldue (fun vs H Q E h => ?_) (fun cdv A outer s H vs Q E hr h => ?_)
  · obtain ⟨l, rfl, _⟩ := h
    rfl
  · obtain ⟨l, rfl, hl, qn, q⟩ := h
    refine ⟨_, (pss_cons (ps_if (pt_cmpR op_eq (pv 0) pe_str (nomark _)) (pss_one (ps_ret (pe_lst pa_nil))) pss_nil)
      (pss_cons (ps_set (i := 1) sc_Ldue.nd rfl (Or.inl rfl) (pe_lst pa_nil))
      (pss_cons (ps_for PassesOwn.never rfl (piL (K := K) (pe_split (pv 0) pe_str)) (pg_name (i := 2) sc_Ldue.nd rfl (Or.inl rfl)) (pss_cons (ps_set (i := 3) sc_Ldue.nd rfl (Or.inl rfl) (pe_split (pv 2) pe_str))
      (pss_cons (ps_set (i := 4) sc_Ldue.nd rfl (Or.inl rfl) (pe_split (pe_ix (ixl (K := K)) (pv 3) pe_int (fun _ _ => rfl)) pe_str))
      (pss_cons (ps_if (PW.pt (pw_or (pt_cmpR op_ne (pe_callB (bLen (K := K)) (by rfl) B.len_ boot_len (pa_cons (pv 3) pa_nil)) pe_int (nomark _)) (pw_or1 (pt_cmpR op_ne (pe_callB (bLen (K := K)) (by rfl) B.len_ boot_len (pa_cons (pv 4) pa_nil)) pe_int (nomark _))))) (pss_one (ps_ret pe_non)) pss_nil)
      (pss_cons (ps_set (i := 5) sc_Ldue.nd rfl (Or.inl rfl) (pe_tup (pa_cons (pe_call c_Lnumber.ok (hr.mono (by decide)) (by rfl) c_Lnumber.gl c_Lnumber.kp c_Lnumber.bd .nil pass0 (pa_cons (pe_ix (ixl (K := K)) (pv 4) pe_int (fun _ _ => rfl)) (pa_cons pe_int pa_nil))) (pa_cons (pe_call c_Lnumber.ok (hr.mono (by decide)) (by rfl) c_Lnumber.gl c_Lnumber.kp c_Lnumber.bd .nil pass0 (pa_cons (pe_ix (ixl (K := K)) (pv 4) pe_int (fun _ _ => rfl)) (pa_cons pe_int pa_nil))) (pa_cons (pe_call c_Lnumber.ok (hr.mono (by decide)) (by rfl) c_Lnumber.gl c_Lnumber.kp c_Lnumber.bd .nil pass0 (pa_cons (pe_ix (ixl (K := K)) (pv 3) pe_int (fun _ _ => rfl)) (pa_cons pe_int pa_nil))) pa_nil)))))
      (pss_cons (ps_if (PW.pt (pw_or (pt_cmpR op_lt (pe_ix (ixt (K := K)) (pv 5) pe_int (fun _ _ => rfl)) pe_int (nomark _)) (pw_or (pt_cmpR op_lt (pe_ix (ixt (K := K)) (pv 5) pe_int (fun _ _ => rfl)) pe_int (nomark _)) (pw_or (pt_cmpR op_lt (pe_ix (ixt (K := K)) (pv 5) pe_int (fun _ _ => rfl)) pe_int (nomark _)) (pw_or1 (pt_cmpR op_eq (pe_ix (ixt (K := K)) (pv 5) pe_int (fun _ _ => rfl)) (pe_ix (ixt (K := K)) (pv 5) pe_int (fun _ _ => rfl)) (nomark _))))))) (pss_one (ps_ret pe_non)) pss_nil)
      (pss_one (ps_expr (peBm (K := K) PySem.F.plainAttrs_list PySem.F.slot_list_append PySem.F.type_list_append mt_append (pv 1) (pa_cons (pv 5) pa_nil))))))))))
      (pss_one (ps_ret (pv 1)))))), Go.here ?_⟩
    walk_at "s"; walk_at "ks"
    refine r_eqL lit_e ?_
    walk_at "ks"
    refine ⟨fun hb => ?_, fun hb => ?_⟩
    · have h0 := of_decide_eq_true hb
      walk_at "s"; walk_at "ks"
      refine ⟨(by show 0 ≤ 100000; decide), fun p np => ?_⟩
      exact q [] (by unfold Pz.rd; rw [if_pos h0]) p [] _ (Ex.new np) ⟨upd_same, rfl, fun i g z h => by cases h⟩
    have h0 := of_decide_eq_false hb
    have hrd : Pz.rd l = Pz.mapO Pz.gw (TL.spl [32] 0 [] l) := by unfold Pz.rd; rw [if_neg h0]
    rw [hrd] at qn q
    have hsl := Pz.spl_len (c := 32) _ l (Nat.le_refl _)
    have hpl := Pz.spl_part_len (c := 32) _ l (Nat.le_refl _)
    generalize hws : TL.spl [32] 0 [] l = ws at qn q hsl hpl
    walk_at "s"; walk_at "ks"
    refine ⟨(by show 0 ≤ 100000; decide), fun p np => ?_⟩
    have e1 : Ex H (upd H p (.lst [])) := Ex.new np
    have p1 : (upd H p (.lst [])) p = some (.lst []) := upd_same
    generalize upd H p (.lst []) = H1 at e1 p1
    refine gs_forF ?_
    refine k_m1 ?_
    walk_at "ks"
    refine ⟨⟨_, rfl⟩, ?_⟩
    walk_at "ks"
    refine m_split lit_sp (by decide) (by omega) fun b nb => ?_
    rw [hws]
    have e2 := e1.trans (Ex.new (o := .lst ((ws.map SX.S).map V.str)) nb)
    have p2 := at_up (o := .lst ((ws.map SX.S).map V.str)) p1 nb
    have b2 : (upd H1 b (.lst ((ws.map SX.S).map V.str))) b = some (.lst ((ws.map SX.S).map V.str)) := upd_same
    have hbp : b ≠ p := (ne_of_none p1 nb).symm
    generalize upd H1 b (.lst ((ws.map SX.S).map V.str)) = H2 at e2 p2 b2
    refine ⟨b, (ws.map SX.S).map V.str, fun i σ' H' => ∃ (qs : List Addr) (Gs : List Pg.Gift) (v2 v3 v4 v5 : Option V), σ' = [some (.str (SX.S l)), some (.ref p), v2, v3, v4, v5] ∧ qs.length = i ∧ Ex H H' ∧ H' b = some (.lst ((ws.map SX.S).map V.str)) ∧ GfH H' p qs Gs ∧ Pz.mapO Pz.gw (ws.take i) = some Gs, rfl, sq_of b2, ⟨[], [], none, none, none, none, rfl, rfl, e2, b2, ⟨p2, rfl, fun k g z h => by cases h⟩, rfl⟩, ?_, ?_, ?_⟩
    · rintro i σ' H' _ ⟨qs, Gs, v2, v3, v4, v5, rfl, _, _, hb', _⟩
      exact sq_of hb'
    · rintro i x σ' H' hx ⟨qs, Gs, v2, v3, v4, v5, rfl, hq, e3, b3, hG, hm⟩
      obtain ⟨w', hw', rfl⟩ : ∃ w, ws[i]? = some w ∧ x = V.str (SX.S w) := by
        rw [List.getElem?_map, List.getElem?_map] at hx
        cases ez : ws[i]? with
        | none => rw [ez] at hx; cases hx
        | some z => rw [ez] at hx; exact ⟨z, rfl, (Option.some.inj hx).symm⟩
      have hwm := List.mem_of_getElem? hw'
      have hwl := hpl w' hwm
      have hil := (List.getElem?_eq_some_iff.mp hw').1
      have none_ : Pz.gw w' = none → ∀ H'', Ex H H'' → KQ Q .non H'' := fun z => qn (Pz.mapO_none hwm z)
      -- the halves
      walk_at "s"
      refine k_m1 ?_
      walk_at "ks"
      refine ⟨⟨_, rfl⟩, ?_⟩
      walk_at "ks"
      refine m_split lit_col (by decide) (by omega) fun h nh => ?_
      have x1 := Ex.new (o := .lst (((TL.spl [58] 0 [] w').map SX.S).map V.str)) nh
      have h1 : (upd H' h (.lst (((TL.spl [58] 0 [] w').map SX.S).map V.str))) h = some (.lst (((TL.spl [58] 0 [] w').map SX.S).map V.str)) := upd_same
      have e4 := e3.trans x1
      have b4 := x1 _ _ b3
      have G4 := hG.up x1
      have php : h ≠ p := (ne_of_none hG.lst nh).symm
      generalize upd H' h (.lst (((TL.spl [58] 0 [] w').map SX.S).map V.str)) = H4 at x1 h1 e4 b4 G4
      obtain ⟨e, rest, ehe⟩ : ∃ e rest, TL.spl [58] 0 [] w' = e :: rest := by
        have := Pz.spl_ne (c := 58) w'
        cases hh : TL.spl [58] 0 [] w' with
        | nil => rw [hh] at this; cases this
        | cons a r => exact ⟨a, r, rfl⟩
      have hel : e.length ≤ w'.length := Pz.spl_part_len (c := 58) _ w' (Nat.le_refl _) e (by rw [ehe]; exact List.mem_cons_self)
      -- the places
      walk_at "s"
      refine k_m1 ?_
      walk_at "ks"
      refine r_ixL (v := .str (SX.S e)) (sq_of h1) (atI_nat (j := 0) (by rw [List.getElem?_map, List.getElem?_map, ehe]; rfl)) ?_
      refine ⟨⟨_, rfl⟩, ?_⟩
      walk_at "ks"
      refine m_split lit_gt (by decide) (by omega) fun pl npl => ?_
      have x2 := Ex.new (o := .lst (((TL.spl [62] 0 [] e).map SX.S).map V.str)) npl
      have pl2 : (upd H4 pl (.lst (((TL.spl [62] 0 [] e).map SX.S).map V.str))) pl = some (.lst (((TL.spl [62] 0 [] e).map SX.S).map V.str)) := upd_same
      have h2 := x2 _ _ h1
      have e5 := e4.trans x2
      have b5 := x2 _ _ b4
      have G5 := G4.up x2
      generalize upd H4 pl (.lst (((TL.spl [62] 0 [] e).map SX.S).map V.str)) = H5 at x2 pl2 h2 e5 b5 G5
      clear x1 x2 h1 e4 b4 G4
      walk_at "s"; walk_at "ks"
      refine c_len (sq_of h2) ?_
      rw [List.length_map, List.length_map]
      walk_at "ks"
      by_cases c1 : (TL.spl [58] 0 [] w').length = 2
      rotate_left
      · rw [decide_eq_false (by omega)]
        refine ⟨fun _ => ⟨fun _ => ?_, fun h => Bool.noConfusion h⟩, fun h => Bool.noConfusion h⟩
        walk_at "s"; walk_at "ks"
        exact none_ (Pz.gw_colon c1) _ e5
      obtain ⟨e', t, hc1, hs1⟩ := Pz.gw_parts c1
      rw [decide_eq_true (by omega)]
      rw [hs1] at ehe h2
      obtain ⟨rfl, rfl⟩ := List.cons.inj ehe
      refine ⟨fun h => Bool.noConfusion h, fun _ => ?_⟩
      walk_at "ks"
      refine c_len (sq_of pl2) ?_
      rw [List.length_map, List.length_map]
      walk_at "ks"
      by_cases c2 : (TL.spl [62] 0 [] e').length = 2
      rotate_left
      · rw [decide_eq_false (by omega)]
        refine ⟨fun _ => ?_, fun h => Bool.noConfusion h⟩
        walk_at "s"; walk_at "ks"
        exact none_ (Pz.gw_arrow hc1 c2) _ e5
      obtain ⟨a', b', hc2, hs2⟩ := Pz.arrow_parts c2
      rw [decide_eq_true (by omega)]
      rw [hs2] at pl2
      refine ⟨fun h => Bool.noConfusion h, fun _ => ?_⟩
      have ge := Pz.gw_eq hc1 hc2
      obtain ⟨_, htl⟩ := Pz.cut_len hc1
      obtain ⟨hal, hbl⟩ := Pz.cut_len hc2
      walk_at "s"; walk_at "ks"
      refine r_ixL (v := .str (SX.S a')) (sq_of pl2) rfl ?_
      walk_at "ks"
      refine k_Lnumber (m := 2) (by omega) (by decide) ?_
      walk_at "ks"
      refine r_ixL (v := .str (SX.S b')) (sq_of pl2) rfl ?_
      walk_at "ks"
      refine k_Lnumber (m := 2) (by omega) (by decide) ?_
      walk_at "ks"
      refine r_ixL (v := .str (SX.S t)) (sq_of h2) rfl ?_
      walk_at "ks"
      refine k_Lnumber (m := 61) (by omega) (by decide) ?_
      walk_at "ks"
      refine ⟨(by show 3 ≤ 100000; decide), fun gt ngt => ?_⟩
      have x6 := Ex.new (o := .tup [V.int (Pz.numI a' 2), V.int (Pz.numI b' 2), V.int (Pz.numI t 61)]) ngt
      have t6 : (upd H5 gt (.tup [V.int (Pz.numI a' 2), V.int (Pz.numI b' 2), V.int (Pz.numI t 61)])) gt = some (.tup [V.int (Pz.numI a' 2), V.int (Pz.numI b' 2), V.int (Pz.numI t 61)]) := upd_same
      have e6 := e5.trans x6
      have b6 := x6 _ _ b5
      have G6 := G5.up x6
      generalize upd H5 gt (.tup [V.int (Pz.numI a' 2), V.int (Pz.numI b' 2), V.int (Pz.numI t 61)]) = H6 at x6 t6 e6 b6 G6
      clear x6 h2 pl2 e5 b5 G5
      have bad : Pz.gw w' = none → ∀ H7, Ex H6 H7 → Q .non H7 := fun z => none_ z _ e6
      walk_at "s"; walk_at "ks"
      refine r_ixT (v := .int (Pz.numI a' 2)) (st_of t6) rfl ?_
      walk_at "ks"
      cases hA : Pz.num a' 2 with
      | none =>
        have nA : Pz.numI a' 2 = -1 := by unfold Pz.numI; rw [hA]
        rw [nA, decide_eq_true (by decide)]
        refine ⟨fun _ => ⟨fun _ => ?_, fun h => Bool.noConfusion h⟩, fun h => Bool.noConfusion h⟩
        walk_at "s"; walk_at "ks"
        exact bad (by rw [ge, hA]; exact Pz.three_none1)
      | some x =>
      have nA : Pz.numI a' 2 = (x : Int) := by unfold Pz.numI; rw [hA]
      rw [nA] at t6
      rw [nA, decide_eq_false (by omega)]
      refine ⟨fun h => Bool.noConfusion h, fun _ => ?_⟩
      walk_at "ks"
      refine r_ixT (v := .int (Pz.numI b' 2)) (st_of t6) rfl ?_
      walk_at "ks"
      cases hBn : Pz.num b' 2 with
      | none =>
        have nB : Pz.numI b' 2 = -1 := by unfold Pz.numI; rw [hBn]
        rw [nB, decide_eq_true (by decide)]
        refine ⟨fun _ => ⟨fun _ => ?_, fun h => Bool.noConfusion h⟩, fun h => Bool.noConfusion h⟩
        walk_at "s"; walk_at "ks"
        exact bad (by rw [ge, hBn]; exact Pz.three_none2)
      | some y =>
      have nB : Pz.numI b' 2 = (y : Int) := by unfold Pz.numI; rw [hBn]
      rw [nB] at t6
      rw [nB, decide_eq_false (by omega)]
      refine ⟨fun h => Bool.noConfusion h, fun _ => ?_⟩
      walk_at "ks"
      refine r_ixT (v := .int (Pz.numI t 61)) (st_of t6) rfl ?_
      walk_at "ks"
      cases hT : Pz.num t 61 with
      | none =>
        have nT : Pz.numI t 61 = -1 := by unfold Pz.numI; rw [hT]
        rw [nT, decide_eq_true (by decide)]
        refine ⟨fun _ => ⟨fun _ => ?_, fun h => Bool.noConfusion h⟩, fun h => Bool.noConfusion h⟩
        walk_at "s"; walk_at "ks"
        exact bad (by rw [ge, hT]; exact Pz.three_none3)
      | some z =>
      have nT : Pz.numI t 61 = (z : Int) := by unfold Pz.numI; rw [hT]
      rw [nT] at t6
      rw [nT]
      rw [hA, hBn, hT] at ge
      by_cases c3 : z = 0
      · rw [decide_eq_true (by omega)]
        refine ⟨fun _ => ⟨fun _ => ?_, fun h => Bool.noConfusion h⟩, fun h => Bool.noConfusion h⟩
        walk_at "s"; walk_at "ks"
        exact bad (by rw [ge]; exact if_pos (.inr c3))
      rw [decide_eq_false (by omega)]
      refine ⟨fun h => Bool.noConfusion h, fun _ => ?_⟩
      walk_at "ks"
      refine r_ixT (v := .int (x : Int)) (st_of t6) rfl ?_
      walk_at "ks"
      refine r_ixT (v := .int (y : Int)) (st_of t6) rfl ?_
      walk_at "ks"
      by_cases c4 : x = y
      · rw [decide_eq_true (by omega)]
        refine ⟨fun _ => ?_, fun h => Bool.noConfusion h⟩
        walk_at "s"; walk_at "ks"
        exact bad (by rw [ge]; exact if_pos (.inl c4))
      rw [decide_eq_false (by omega)]
      refine ⟨fun h => Bool.noConfusion h, fun _ => ?_⟩
      have gz : Pz.gw w' = some ((x : Int), (y : Int), (z : Int)) := by rw [ge]; exact if_neg (fun h => h.elim c4 c3)
      walk_at "s"; walk_at "ks"
      refine ⟨tyl (sq_of G6.lst), ?_⟩
      walk_at "ks"
      refine m_append G6.lst (by rw [List.length_map, hq]; omega) ?_
      have tW : ∀ g u, H6 g = some (.tup u) → (upd H6 p (.lst (qs.map V.ref ++ [V.ref gt]))) g = some (.tup u) := fun g u hg => by
        rw [upd_ne fun e => by subst e; rw [G6.lst] at hg; cases hg]
        exact hg
      have G7 : GfH (upd H6 p (.lst (qs.map V.ref ++ [V.ref gt]))) p (qs ++ [gt]) (Gs ++ [((x : Int), (y : Int), (z : Int))]) := G6.snoc (z := ((x : Int), (y : Int), (z : Int))) (by rw [upd_same, List.map_append]; rfl) tW (tW _ _ t6)
      refine fun H7 e7 => ⟨_, e7, qs ++ [gt], Gs ++ [((x : Int), (y : Int), (z : Int))], _, _, _, _, rfl, by rw [List.length_append, hq]; rfl, Ex.mut e6 np, by rw [upd_ne hbp]; exact b6, G7, ?_⟩
      rw [Pm.take_more hw']
      exact Pz.mapO_snoc hm gz
    · rintro σ' H' ⟨qs, Gs, v2, v3, v4, v5, rfl, hq, e3, b3, hG, hm⟩
      rw [List.length_map, List.length_map, List.take_length] at hm
      walk_at "s"; walk_at "ks"
      exact q Gs hm p qs H' e3 hG
theorem ok_Lholds {C_PurseError C_NoGift C_Unlike C_Gap C_NoText : Addr} {tok : Tok} (T : TxtX K mg C_PurseError C_NoGift C_Unlike C_Gap C_NoText tok) {f : Addr} {fd : FuncData} (F : Fun K "_law_holds" "_law_holds" s_Lholds f fd) (B : Bl mg) {f_Lalike : Addr} {fd_Lalike : FuncData} (c_Lalike : Cl P w K mg base CX0 2 "_law_alike" f_Lalike fd_Lalike ["_law_found", "_law_due_here"] (spLalike K)) {f_Ldue : Addr} {fd_Ldue : FuncData} (c_Ldue : Cl P w K mg base CX0 2 "_law_due" f_Ldue fd_Ldue ["_law_signs_here"] (spLdue K)) {f_read : Addr} {fd_read : FuncData} (c_read : Cl P w K mg base (L2.CX P w) 3 "read" f_read fd_read ["text"] (spread K C_NoText)) : FnOk P w K mg base CX0 4 f fd ["_law_signs_here"] (spLholds K) := by
  refine F.ok sc_Lholds (fun vs H Q E h => ?_) (fun cdv A outer s H vs Q E hr h => ?_)
  · obtain ⟨l, rfl, _⟩ := h
    rfl
  · obtain ⟨l, rfl, hl, q⟩ := h
    refine ⟨_, (pss_cons (ps_set (i := 1) sc_Lholds.nd rfl (Or.inl rfl) (pe_call c_Ldue.ok (hr.mono (by decide)) (by rfl) c_Ldue.gl c_Ldue.kp c_Ldue.bd .nil pass0 (pa_cons (pv 0) pa_nil)))
      (pss_cons (ps_set (i := 2) sc_Lholds.nd rfl (Or.inl rfl) pe_non)
      (pss_cons (ps_set (i := 3) sc_Lholds.nd rfl (Or.inl rfl) pe_non)
      (pss_cons (ps_tryKeep (K := K) (C := C_NoText) (i := 4) (j := 2) rfl rfl sc_Lholds.nd rfl rfl rfl rfl ⟨rfl, by decide, Or.inl T.g_PurseError⟩ (fun W pn xe tk po => (pss_one (ps_set (i := 3) sc_Lholds.nd rfl (Or.inl rfl) (pe_callS c_read.ok (hr.mono (by decide)) (by rfl) c_read.gl c_read.kp c_read.bd (fun σ => passAt tk σ) (by exact (pa_cons (pv 0) pa_nil)))))))
      (pss_cons (ps_if (pt_cmpR op_notN (pv 1) pe_non (nomark _)) (pss_one (ps_ret (pe_and (pe_cmpR op_isN (pv 2) pe_non (nomark _)) (pe_one (pe_call c_Lalike.ok (hr.mono (by decide)) (by rfl) c_Lalike.gl c_Lalike.kp c_Lalike.bd .nil pass0 (pa_cons (pv 3) (pa_cons (pv 1) pa_nil))))))) pss_nil)
      (pss_cons (ps_if (PW.pt (pw_or (pt_not (pt_val (pe_callB (bIsX T.CE T.cl) (by rfl) B.isinstance_ boot_isinstance (pa_cons (pv 2) (pa_cons (pe_glob (v := .ref C_NoText) rfl T.g_NoText rfl) pa_nil))))) (pw_or1 (pt_not (pt_val (pe_callB (bIsX T.CE T.cl) (by rfl) B.isinstance_ boot_isinstance (pa_cons (pv 2) (pa_cons (pe_bltn (v := .ty "ValueError") (by rfl) B.ValueError_ boot_ValueError rfl) pa_nil)))))))) (pss_one (ps_ret pe_bl)) pss_nil)
      (pss_one (ps_ret (pe_and (pe_not (pe_callB (bIsX T.CE T.cl) (by rfl) B.isinstance_ boot_isinstance (pa_cons (pv 2) (pa_cons (pe_glob (v := .ref C_NoGift) rfl T.g_NoGift rfl) pa_nil)))) (pe_and (pe_not (pe_callB (bIsX T.CE T.cl) (by rfl) B.isinstance_ boot_isinstance (pa_cons (pv 2) (pa_cons (pe_glob (v := .ref C_Unlike) rfl T.g_Unlike rfl) pa_nil)))) (pe_one (pe_not (pe_callB (bIsX T.CE T.cl) (by rfl) B.isinstance_ boot_isinstance (pa_cons (pv 2) (pa_cons (pe_glob (v := .ref C_Gap) rfl T.g_Gap rfl) pa_nil))))))))))))))), Go.here ?_⟩
    walk_at "s"; walk_at "ks"
    refine k_Ldue hl (fun hn H1 e1 => ?_) (fun Gs hG p fs H1 e1 G1 => ?_)
    · walk_at "s"; walk_at "ks"
      walk_at "s"; walk_at "ks"
      refine gs_try ?_
      walk_at "s"
      refine k_callS ?_
      walk_at "ks"
      refine k_read hl (fun _ => ?_) (fun Gs h => by rw [hn] at h; cases h)
      refine ke_keepG T.e_PurseError fun a na => ?_
      have e2 := e1.trans (Ex.new (o := CxO C_NoText a) na)
      have hH : (upd H1 a (CxO C_NoText a)) a = some (CxO C_NoText a) := upd_same
      generalize upd H1 a (CxO C_NoText a) = H2 at e2 hH
      walk_at "s"; walk_at "ks"
      refine r_notN ?_
      rw [decide_eq_true rfl]
      walk_at "ks"
      refine ⟨fun hb => Bool.noConfusion hb, fun _ => ?_⟩
      walk_at "s"; walk_at "ks"
      refine c_isX hH T.n_NoText ?_
      walk_at "ks"
      refine ⟨fun hb => Bool.noConfusion hb, fun _ => ?_⟩
      walk_at "ks"
      refine c_isXT hH T.n_ValueError ?_
      walk_at "ks"
      refine ⟨fun hb => Bool.noConfusion hb, fun _ => ?_⟩
      walk_at "s"; walk_at "ks"
      refine c_isX hH T.n_NoGift ?_
      walk_at "ks"
      refine ⟨fun _ => ?_, fun hb => Bool.noConfusion hb⟩
      walk_at "ks"
      refine c_isX hH T.n_Unlike ?_
      walk_at "ks"
      refine ⟨fun _ => ?_, fun hb => Bool.noConfusion hb⟩
      walk_at "ks"
      refine c_isX hH T.n_Gap ?_
      walk_at "ks"
      exact q H2 e2
    · walk_at "s"; walk_at "ks"
      walk_at "s"; walk_at "ks"
      refine gs_try ?_
      walk_at "s"
      refine k_callS ?_
      walk_at "ks"
      refine k_read hl (fun hn => by rw [hG] at hn; cases hn) fun Gs2 h2 r fs2 H2 e2 G2 => ?_
      obtain rfl : Gs = Gs2 := Option.some.inj (hG.symm.trans h2)
      have hlen := Pz.rd_len hG
      walk_at "s"; walk_at "ks"
      refine r_notN ?_
      rw [decide_eq_false (fun h => by cases h)]
      walk_at "ks"
      refine ⟨fun _ => ?_, fun hb => Bool.noConfusion hb⟩
      walk_at "s"; walk_at "ks"
      refine r_isN ?_
      rw [decide_eq_true rfl]
      walk_at "ks"
      refine ⟨fun _ => ?_, fun hb => Bool.noConfusion hb⟩
      walk_at "ks"
      exact k_Lalike G2 (G1.up e2).gfl (by omega) (q H2 (e1.trans e2))
theorem ok_law {C_PurseError C_NoGift C_Unlike C_Gap C_NoText : Addr} {tok : Tok} (T : TxtX K mg C_PurseError C_NoGift C_Unlike C_Gap C_NoText tok) {f : Addr} {fd : FuncData} (F : Fun K "law" "law" s_law f fd) (B : Bl mg) {f_Lholds : Addr} {fd_Lholds : FuncData} (c_Lholds : Cl P w K mg base CX0 4 "_law_holds" f_Lholds fd_Lholds ["_law_signs_here"] (spLholds K)) {f_Lsigns : Addr} {fd_Lsigns : FuncData} (c_Lsigns : Cl P w K mg base CX0 3 "_law_signs" f_Lsigns fd_Lsigns ["_law_cell"] (spLsigns K)) : FnOk P w K mg base CX0 5 f fd ["_law_script"] (spLaw K) := by
  refine F.ok sc_law (fun vs H Q E h => ?_) (fun cdv A outer s H vs Q E hr h => ?_)
  · obtain ⟨a, ns, rfl, _⟩ := h
    rfl
  · obtain ⟨a, ss, rfl, hS, hl, hbits, q⟩ := h
    have hB : AllBd 1048576 ss := fun z hz => Bd.bits (hbits z hz)
    refine ⟨_, (pss_cons (ps_for PassesOwn.never rfl (piL (K := K) (pe_slice (sll (K := K)) (pv 0) po_none (po_some pe_int))) (pg_name (i := 1) sc_law.nd rfl (Or.inl rfl)) (pss_one (ps_if (pt_not (pt_val (pe_call c_Lholds.ok (hr.mono (by decide)) (by rfl) c_Lholds.gl c_Lholds.kp c_Lholds.bd .nil pass0 (pa_cons (pe_call c_Lsigns.ok (hr.mono (by decide)) (by rfl) c_Lsigns.gl c_Lsigns.kp c_Lsigns.bd .nil pass0 (pa_cons (pv 1) pa_nil)) pa_nil)))) (pss_one (ps_ret pe_bl)) pss_nil)))
      (pss_one (ps_ret (pe_and (pe_call c_Lholds.ok (hr.mono (by decide)) (by rfl) c_Lholds.gl c_Lholds.kp c_Lholds.bd .nil pass0 (pa_cons pe_str pa_nil)) (pe_one (pe_call c_Lholds.ok (hr.mono (by decide)) (by rfl) c_Lholds.gl c_Lholds.kp c_Lholds.bd .nil pass0 (pa_cons pe_str pa_nil))))))), Go.here ?_⟩
    refine gs_forF ?_
    walk_at "ks"
    refine r_slL hS fun c nc => ?_
    obtain ⟨cs, ec, hcs1, hcs2⟩ := cut_ints ss none (some 30)
    rw [ec]
    have e1 : Ex H (upd H c (.lst (cs.map V.int))) := Ex.new nc
    have c1 : (upd H c (.lst (cs.map V.int))) c = some (.lst (cs.map V.int)) := upd_same
    generalize upd H c (.lst (cs.map V.int)) = H1 at e1 c1
    refine ⟨c, cs.map V.int, fun i σ' H' => ∃ v : Option V, σ' = [some (.ref a), v] ∧ Ex H1 H', rfl, sq_of c1, ⟨none, rfl, Ex.refl _⟩, ?_, ?_, ?_⟩
    · rintro i σ' H' _ ⟨v, rfl, e⟩
      exact sq_of (e _ _ c1)
    · rintro i x σ' H' hx ⟨v, rfl, e⟩
      obtain ⟨y, hy, rfl⟩ := Pm.map_at hx
      walk_at "s"; walk_at "ks"
      refine k_Lsigns (hB y (hcs1 y (List.mem_of_getElem? hy))) fun l H2 e2 hl2 => ?_
      walk_at "ks"
      refine k_Lholds (by omega) fun H3 e3 => ?_
      walk_at "ks"
      refine ⟨fun hb => Bool.noConfusion hb, fun _ => ?_⟩
      exact g1_next fun H4 e4 => ⟨_, e4, _, rfl, (e.trans e2).trans e3⟩
    · rintro σ' H' ⟨v, rfl, e⟩
      walk_at "s"; walk_at "ks"
      rw [lit_e]
      refine k_Lholds (by decide) fun H2 e2 => ?_
      walk_at "ks"
      refine ⟨fun _ => ?_, fun hb => Bool.noConfusion hb⟩
      walk_at "ks"
      rw [show Str.ofString "0>1:1" = SX.S [48, 62, 49, 58, 49] by decide +kernel]
      exact k_Lholds (by decide) fun H3 e3 => fun H9 _ => q H9
end
theorem all_mk {l : PySem.W.OpenLaw} {w : World} {K : PySem.W.Frag} {h : Heap} {mg : Str → Option Value} {fa f1 f2 f3 f4 f5 f6 f7 f8 f9 f10 f11 f12 f13 f14 f15 f16 : Addr} (X : K.In h) (G : h.Ns mainGlobals mg) (hfa : mg "law" = some (.ref fa))
    {od1 an1 od2 an2 od3 an3 od4 an4 od5 an5 od6 an6 od7 an7 od8 an8 od9 an9 od10 an10 od11 an11 od12 an12 od13 an13 od14 an14 od15 an15 od16 an16 : Option Addr} {sl1 sl2 sl3 sl4 sl5 sl6 sl7 sl8 sl9 sl10 sl11 sl12 sl13 sl14 sl15 sl16 : Array (Option Value)} {oc1 kV1 dc1 pm1 cd1 ct1 oc2 kV2 dc2 pm2 cd2 ct2 oc3 kV3 dc3 pm3 cd3 ct3 oc4 kV4 dc4 pm4 cd4 ct4 oc5 kV5 dc5 pm5 cd5 ct5 oc6 kV6 dc6 pm6 cd6 ct6 oc7 kV7 dc7 pm7 cd7 ct7 oc8 kV8 dc8 pm8 cd8 ct8 oc9 kV9 dc9 pm9 cd9 ct9 oc10 kV10 dc10 pm10 cd10 ct10 oc11 kV11 dc11 pm11 cd11 ct11 oc12 kV12 dc12 pm12 cd12 ct12 oc13 kV13 dc13 pm13 cd13 ct13 oc14 kV14 dc14 pm14 cd14 ct14 oc15 kV15 dc15 pm15 cd15 ct15 oc16 kV16 dc16 pm16 cd16 ct16 : Value} {C_PurseError C_NoGift C_Unlike C_Gap C_NoText : Addr} {tok : Tok}
    (a1 : PySem.W.nsIn K mainGlobals "_law_whole" = some (some (.ref f1))) (l1 : K.lookup f1 = some ⟨oc1, od1, .func (PySem.W.fnOf "_law_whole" "_law_whole" (defArgs s_Lwhole) (defBody s_Lwhole) (defScope s_Lwhole) .none kV1 dc1 pm1 an1 cd1 ct1), sl1⟩) (c1 : PySem.W.codeIn K cd1 "_law_whole" = true) (k1 : PySem.W.keepIn K (.ref f1) = true)
    (a2 : PySem.W.nsIn K mainGlobals "_law_alike" = some (some (.ref f2))) (l2 : K.lookup f2 = some ⟨oc2, od2, .func (PySem.W.fnOf "_law_alike" "_law_alike" (defArgs s_Lalike) (defBody s_Lalike) (defScope s_Lalike) .none kV2 dc2 pm2 an2 cd2 ct2), sl2⟩) (c2 : PySem.W.codeIn K cd2 "_law_alike" = true) (k2 : PySem.W.keepIn K (.ref f2) = true)
    (a3 : PySem.W.nsIn K mainGlobals "_law_number" = some (some (.ref f3))) (l3 : K.lookup f3 = some ⟨oc3, od3, .func (PySem.W.fnOf "_law_number" "_law_number" (defArgs s_Lnumber) (defBody s_Lnumber) (defScope s_Lnumber) .none kV3 dc3 pm3 an3 cd3 ct3), sl3⟩) (c3 : PySem.W.codeIn K cd3 "_law_number" = true) (k3 : PySem.W.keepIn K (.ref f3) = true)
    (a4 : PySem.W.nsIn K mainGlobals "_law_due" = some (some (.ref f4))) (l4 : K.lookup f4 = some ⟨oc4, od4, .func (PySem.W.fnOf "_law_due" "_law_due" (defArgs s_Ldue) (defBody s_Ldue) (defScope s_Ldue) .none kV4 dc4 pm4 an4 cd4 ct4), sl4⟩) (c4 : PySem.W.codeIn K cd4 "_law_due" = true) (k4 : PySem.W.keepIn K (.ref f4) = true)
    (a5 : PySem.W.nsIn K mainGlobals "number_of" = some (some (.ref f5))) (l5 : K.lookup f5 = some ⟨oc5, od5, .func (PySem.W.fnOf "number_of" "number_of" (defArgs s_number_of) (defBody s_number_of) (defScope s_number_of) .none kV5 dc5 pm5 an5 cd5 ct5), sl5⟩) (c5 : PySem.W.codeIn K cd5 "number_of" = true) (k5 : PySem.W.keepIn K (.ref f5) = true)
    (a6 : PySem.W.nsIn K mainGlobals "gift_of" = some (some (.ref f6))) (l6 : K.lookup f6 = some ⟨oc6, od6, .func (PySem.W.fnOf "gift_of" "gift_of" (defArgs s_gift_of) (defBody s_gift_of) (defScope s_gift_of) .none kV6 dc6 pm6 an6 cd6 ct6), sl6⟩) (c6 : PySem.W.codeIn K cd6 "gift_of" = true) (k6 : PySem.W.keepIn K (.ref f6) = true)
    (a7 : PySem.W.nsIn K mainGlobals "read" = some (some (.ref f7))) (l7 : K.lookup f7 = some ⟨oc7, od7, .func (PySem.W.fnOf "read" "read" (defArgs s_read) (defBody s_read) (defScope s_read) .none kV7 dc7 pm7 an7 cd7 ct7), sl7⟩) (c7 : PySem.W.codeIn K cd7 "read" = true) (k7 : PySem.W.keepIn K (.ref f7) = true)
    (a8 : PySem.W.nsIn K mainGlobals "_law_holds" = some (some (.ref f8))) (l8 : K.lookup f8 = some ⟨oc8, od8, .func (PySem.W.fnOf "_law_holds" "_law_holds" (defArgs s_Lholds) (defBody s_Lholds) (defScope s_Lholds) .none kV8 dc8 pm8 an8 cd8 ct8), sl8⟩) (c8 : PySem.W.codeIn K cd8 "_law_holds" = true) (k8 : PySem.W.keepIn K (.ref f8) = true)
    (a9 : PySem.W.nsIn K mainGlobals "_law_figures" = some (some (.ref f9))) (l9 : K.lookup f9 = some ⟨oc9, od9, .func (PySem.W.fnOf "_law_figures" "_law_figures" (defArgs s_Lfigures) (defBody s_Lfigures) (defScope s_Lfigures) .none kV9 dc9 pm9 an9 cd9 ct9), sl9⟩) (c9 : PySem.W.codeIn K cd9 "_law_figures" = true) (k9 : PySem.W.keepIn K (.ref f9) = true)
    (a10 : PySem.W.nsIn K mainGlobals "_law_gift" = some (some (.ref f10))) (l10 : K.lookup f10 = some ⟨oc10, od10, .func (PySem.W.fnOf "_law_gift" "_law_gift" (defArgs s_Lgift) (defBody s_Lgift) (defScope s_Lgift) .none kV10 dc10 pm10 an10 cd10 ct10), sl10⟩) (c10 : PySem.W.codeIn K cd10 "_law_gift" = true) (k10 : PySem.W.keepIn K (.ref f10) = true)
    (a11 : PySem.W.nsIn K mainGlobals "_law_written" = some (some (.ref f11))) (l11 : K.lookup f11 = some ⟨oc11, od11, .func (PySem.W.fnOf "_law_written" "_law_written" (defArgs s_Lwritten) (defBody s_Lwritten) (defScope s_Lwritten) .none kV11 dc11 pm11 an11 cd11 ct11), sl11⟩) (c11 : PySem.W.codeIn K cd11 "_law_written" = true) (k11 : PySem.W.keepIn K (.ref f11) = true)
    (a12 : PySem.W.nsIn K mainGlobals "_law_good" = some (some (.ref f12))) (l12 : K.lookup f12 = some ⟨oc12, od12, .func (PySem.W.fnOf "_law_good" "_law_good" (defArgs s_Lgood) (defBody s_Lgood) (defScope s_Lgood) .none kV12 dc12 pm12 an12 cd12 ct12), sl12⟩) (c12 : PySem.W.codeIn K cd12 "_law_good" = true) (k12 : PySem.W.keepIn K (.ref f12) = true)
    (a13 : PySem.W.nsIn K mainGlobals "_law_odd" = some (some (.ref f13))) (l13 : K.lookup f13 = some ⟨oc13, od13, .func (PySem.W.fnOf "_law_odd" "_law_odd" (defArgs s_Lodd) (defBody s_Lodd) (defScope s_Lodd) .none kV13 dc13 pm13 an13 cd13 ct13), sl13⟩) (c13 : PySem.W.codeIn K cd13 "_law_odd" = true) (k13 : PySem.W.keepIn K (.ref f13) = true)
    (a14 : PySem.W.nsIn K mainGlobals "_law_sign" = some (some (.ref f14))) (l14 : K.lookup f14 = some ⟨oc14, od14, .func (PySem.W.fnOf "_law_sign" "_law_sign" (defArgs s_Lsign) (defBody s_Lsign) (defScope s_Lsign) .none kV14 dc14 pm14 an14 cd14 ct14), sl14⟩) (c14 : PySem.W.codeIn K cd14 "_law_sign" = true) (k14 : PySem.W.keepIn K (.ref f14) = true)
    (a15 : PySem.W.nsIn K mainGlobals "_law_signs" = some (some (.ref f15))) (l15 : K.lookup f15 = some ⟨oc15, od15, .func (PySem.W.fnOf "_law_signs" "_law_signs" (defArgs s_Lsigns) (defBody s_Lsigns) (defScope s_Lsigns) .none kV15 dc15 pm15 an15 cd15 ct15), sl15⟩) (c15 : PySem.W.codeIn K cd15 "_law_signs" = true) (k15 : PySem.W.keepIn K (.ref f15) = true)
    (a16 : PySem.W.nsIn K mainGlobals "law" = some (some (.ref f16))) (l16 : K.lookup f16 = some ⟨oc16, od16, .func (PySem.W.fnOf "law" "law" (defArgs s_law) (defBody s_law) (defScope s_law) .none kV16 dc16 pm16 an16 cd16 ct16), sl16⟩) (c16 : PySem.W.codeIn K cd16 "law" = true) (k16 : PySem.W.keepIn K (.ref f16) = true)
    (z_ValueError : PySem.W.nsIn K mainGlobals "ValueError" = some none) (z_bool : PySem.W.nsIn K mainGlobals "bool" = some none) (z_int : PySem.W.nsIn K mainGlobals "int" = some none) (z_isinstance : PySem.W.nsIn K mainGlobals "isinstance" = some none) (z_len : PySem.W.nsIn K mainGlobals "len" = some none) (z_list : PySem.W.nsIn K mainGlobals "list" = some none) (z_range : PySem.W.nsIn K mainGlobals "range" = some none) (z_str : PySem.W.nsIn K mainGlobals "str" = some none) (z_tuple : PySem.W.nsIn K mainGlobals "tuple" = some none)
    (ePurseError : PySem.W.nsIn K mainGlobals "PurseError" = some (some (.ref C_PurseError))) (eNoGift : PySem.W.nsIn K mainGlobals "NoGift" = some (some (.ref C_NoGift))) (eUnlike : PySem.W.nsIn K mainGlobals "Unlike" = some (some (.ref C_Unlike))) (eGap : PySem.W.nsIn K mainGlobals "Gap" = some (some (.ref C_Gap))) (eNoText : PySem.W.nsIn K mainGlobals "NoText" = some (some (.ref C_NoText))) (xN : PySem.W.excIn K C_NoText [.type "ValueError", .type "Exception", .type "BaseException", .type "object"] "ValueError.__new__" = true) (kN : PySem.W.keepIn K (.ref C_NoText) = true) (bN : PySem.W.subIn K (.ref C_NoText) (.type "BaseException") = some true) (tN : PySem.W.typeIn K (.ref C_NoText) = some (.type "type")) (q1PurseError : PySem.W.subIn K (.ref C_PurseError) (.type "BaseException") = some true) (q2PurseError : PySem.W.hasDictIn K C_PurseError = true) (q3PurseError : PySem.W.typeIn K (.ref C_PurseError) = some (.type "type")) (q4PurseError : PySem.W.subIn K (.ref C_NoText) (.ref C_PurseError) = some true) (ga : PySem.W.findIn K (.ref C_NoText) "__getattribute__" = some (some (.builtin "BaseException.__getattribute__"))) (gg : PySem.W.findIn K (.ref C_NoText) "__getattr__" = some none) (hN : PySem.W.hasDictIn K C_NoText = true) (gc : PySem.W.findIn K (.ref C_NoText) "__class__" = some (some (.builtin "object.__class__"))) (gs : PySem.W.specialIn K (.builtin "object.__class__") "__get__" = some (some (.builtin "getset_descriptor.__get__"))) (gt : PySem.W.takesIn K (.builtin "object.__class__") = some true) (mo : PySem.W.mroIn K C_NoText (.type "object") = some true) (kitNoText : PySem.W.kitOne K (.ref C_NoText) (.ref C_NoText) = some true) (kitValueError : PySem.W.kitOne K (.ref C_NoText) (.type "ValueError") = some true) (kitNoGift : PySem.W.kitOne K (.ref C_NoText) (.ref C_NoGift) = some false) (kitUnlike : PySem.W.kitOne K (.ref C_NoText) (.ref C_Unlike) = some false) (kitGap : PySem.W.kitOne K (.ref C_NoText) (.ref C_Gap) = some false) (eF : PySem.W.nsIn K mainGlobals "FIGURES" = some (some (.str (SX.S Pn.fig) tok))) (clN : (PySem.W.clsIn K C_NoText).isSome = true)
    : ∃ fd : FuncData, (∀ (s : Shared) (v : Value), BindsTo s fd ⟨[v], []⟩ [("_law_script", v)]) ∧ ∀ base : Heap, K.In base → base.Ns mainGlobals mg → FnOk l.prog w K mg base CX0 5 fa fd ["_law_script"] (spLaw K) := by
  have e := hfa.symm.trans (PySem.W.mg_of X G a16)
  cases e
  have B : Bl mg := ⟨PySem.W.mg_none_of X G z_ValueError, PySem.W.mg_none_of X G z_bool, PySem.W.mg_none_of X G z_int, PySem.W.mg_none_of X G z_isinstance, PySem.W.mg_none_of X G z_len, PySem.W.mg_none_of X G z_list, PySem.W.mg_none_of X G z_range, PySem.W.mg_none_of X G z_str, PySem.W.mg_none_of X G z_tuple⟩
  have T0 : TxtE K mg C_PurseError C_NoGift C_Unlike C_Gap C_NoText := ⟨PySem.W.mg_of X G ePurseError, PySem.W.mg_of X G eNoGift, PySem.W.mg_of X G eUnlike, PySem.W.mg_of X G eGap, PySem.W.mg_of X G eNoText, xN, kN, bN, tN, PySem.W.exm_ref q1PurseError q2PurseError q3PurseError q4PurseError, ⟨ga, gg, bN, hN, gc, gs, gt, mo⟩, kitNoText, kitValueError, kitNoGift, kitUnlike, kitGap⟩
  have T : TxtX K mg C_PurseError C_NoGift C_Unlike C_Gap C_NoText tok := ⟨T0, PySem.W.mg_of X G eF, clN⟩
  have F1 := fun_mk (st := s_Lwhole) l1 c1 k1
  have b1 := F1.binds (ps := ["_law_found"]) fun _ _ _ _ _ _ us hl => match us, hl with | [_], _ => rfl
  have F2 := fun_mk (st := s_Lalike) l2 c2 k2
  have b2 := F2.binds (ps := ["_law_found", "_law_due_here"]) fun _ _ _ _ _ _ us hl => match us, hl with | [_, _], _ => rfl
  have F3 := fun_mk (st := s_Lnumber) l3 c3 k3
  have b3 := F3.binds (ps := ["_law_signs_here", "_law_most"]) fun _ _ _ _ _ _ us hl => match us, hl with | [_, _], _ => rfl
  have F4 := fun_mk (st := s_Ldue) l4 c4 k4
  have b4 := F4.binds (ps := ["_law_signs_here"]) fun _ _ _ _ _ _ us hl => match us, hl with | [_], _ => rfl
  have F5 := fun_mk (st := s_number_of) l5 c5 k5
  have b5 := F5.binds (ps := ["figures", "most"]) fun _ _ _ _ _ _ us hl => match us, hl with | [_, _], _ => rfl
  have F6 := fun_mk (st := s_gift_of) l6 c6 k6
  have b6 := F6.binds (ps := ["word"]) fun _ _ _ _ _ _ us hl => match us, hl with | [_], _ => rfl
  have F7 := fun_mk (st := s_read) l7 c7 k7
  have b7 := F7.binds (ps := ["text"]) fun _ _ _ _ _ _ us hl => match us, hl with | [_], _ => rfl
  have F8 := fun_mk (st := s_Lholds) l8 c8 k8
  have b8 := F8.binds (ps := ["_law_signs_here"]) fun _ _ _ _ _ _ us hl => match us, hl with | [_], _ => rfl
  have F9 := fun_mk (st := s_Lfigures) l9 c9 k9
  have b9 := F9.binds (ps := ["_law_cell", "_law_mixed"]) fun _ _ _ _ _ _ us hl => match us, hl with | [_, _], _ => rfl
  have F10 := fun_mk (st := s_Lgift) l10 c10 k10
  have b10 := F10.binds (ps := ["_law_cell"]) fun _ _ _ _ _ _ us hl => match us, hl with | [_], _ => rfl
  have F11 := fun_mk (st := s_Lwritten) l11 c11 k11
  have b11 := F11.binds (ps := ["_law_gift_here"]) fun _ _ _ _ _ _ us hl => match us, hl with | [_], _ => rfl
  have F12 := fun_mk (st := s_Lgood) l12 c12 k12
  have b12 := F12.binds (ps := ["_law_cell", "_law_mixed"]) fun _ _ _ _ _ _ us hl => match us, hl with | [_, _], _ => rfl
  have F13 := fun_mk (st := s_Lodd) l13 c13 k13
  have b13 := F13.binds (ps := ["_law_cell"]) fun _ _ _ _ _ _ us hl => match us, hl with | [_], _ => rfl
  have F14 := fun_mk (st := s_Lsign) l14 c14 k14
  have b14 := F14.binds (ps := ["_law_cell"]) fun _ _ _ _ _ _ us hl => match us, hl with | [_], _ => rfl
  have F15 := fun_mk (st := s_Lsigns) l15 c15 k15
  have b15 := F15.binds (ps := ["_law_cell"]) fun _ _ _ _ _ _ us hl => match us, hl with | [_], _ => rfl
  have F16 := fun_mk (st := s_law) l16 c16 k16
  refine ⟨PySem.W.fnOf "law" "law" (defArgs s_law) (defBody s_law) (defScope s_law) .none kV16 dc16 pm16 an16 cd16 ct16, fun s v => .of_eq rfl, fun base _ _ => ?_⟩
  have c_Lwhole : Cl l.prog w K mg base CX0 1 "_law_whole" f1 _ ["_law_found"] (spLwhole K) := ⟨ok_Lwhole T F1 B, PySem.W.mg_of X G a1, k1, b1⟩
  have c_Lalike : Cl l.prog w K mg base CX0 2 "_law_alike" f2 _ ["_law_found", "_law_due_here"] (spLalike K) := ⟨ok_Lalike T F2 B c_Lwhole, PySem.W.mg_of X G a2, k2, b2⟩
  have c_Lnumber : Cl l.prog w K mg base CX0 1 "_law_number" f3 _ ["_law_signs_here", "_law_most"] (spLnumber K) := ⟨ok_Lnumber T F3 B, PySem.W.mg_of X G a3, k3, b3⟩
  have c_Ldue : Cl l.prog w K mg base CX0 2 "_law_due" f4 _ ["_law_signs_here"] (spLdue K) := ⟨ok_Ldue T F4 B c_Lnumber, PySem.W.mg_of X G a4, k4, b4⟩
  have c_number_of : Cl l.prog w K mg base (L2.CX l.prog w) 1 "number_of" f5 _ ["figures", "most"] (spnumber_of K C_NoText) := ⟨ok_number_of T F5 B, PySem.W.mg_of X G a5, k5, b5⟩
  have c_gift_of : Cl l.prog w K mg base (L2.CX l.prog w) 2 "gift_of" f6 _ ["word"] (spgift_of K C_NoText) := ⟨ok_gift_of T F6 B c_number_of, PySem.W.mg_of X G a6, k6, b6⟩
  have c_read : Cl l.prog w K mg base (L2.CX l.prog w) 3 "read" f7 _ ["text"] (spread K C_NoText) := ⟨ok_read T F7 B c_gift_of, PySem.W.mg_of X G a7, k7, b7⟩
  have c_Lholds : Cl l.prog w K mg base CX0 4 "_law_holds" f8 _ ["_law_signs_here"] (spLholds K) := ⟨ok_Lholds T F8 B c_Lalike c_Ldue c_read, PySem.W.mg_of X G a8, k8, b8⟩
  have c_Lfigures : Cl l.prog w K mg base CX0 1 "_law_figures" f9 _ ["_law_cell", "_law_mixed"] (spLfigures K) := ⟨ok_Lfigures T F9 B, PySem.W.mg_of X G a9, k9, b9⟩
  have c_Lgift : Cl l.prog w K mg base CX0 1 "_law_gift" f10 _ ["_law_cell"] (spLgift K) := ⟨ok_Lgift T F10 B, PySem.W.mg_of X G a10, k10, b10⟩
  have c_Lwritten : Cl l.prog w K mg base CX0 1 "_law_written" f11 _ ["_law_gift_here"] (spLwritten K) := ⟨ok_Lwritten T F11 B, PySem.W.mg_of X G a11, k11, b11⟩
  have c_Lgood : Cl l.prog w K mg base CX0 2 "_law_good" f12 _ ["_law_cell", "_law_mixed"] (spLgood K) := ⟨ok_Lgood T F12 B c_Lgift c_Lwritten, PySem.W.mg_of X G a12, k12, b12⟩
  have c_Lodd : Cl l.prog w K mg base CX0 1 "_law_odd" f13 _ ["_law_cell"] (spLodd K) := ⟨ok_Lodd T F13 B, PySem.W.mg_of X G a13, k13, b13⟩
  have c_Lsign : Cl l.prog w K mg base CX0 1 "_law_sign" f14 _ ["_law_cell"] (spLsign K) := ⟨ok_Lsign T F14 B, PySem.W.mg_of X G a14, k14, b14⟩
  have c_Lsigns : Cl l.prog w K mg base CX0 3 "_law_signs" f15 _ ["_law_cell"] (spLsigns K) := ⟨ok_Lsigns T F15 B c_Lfigures c_Lgood c_Lodd c_Lsign, PySem.W.mg_of X G a15, k15, b15⟩
  exact ok_law T F16 B c_Lholds c_Lsigns

end K10
open PySem PySem.W PyProof.Rows
set_option maxRecDepth 100000 in
set_option maxHeartbeats 0 in
theorem PySem.Challenge.cw_pursewise_k10_notes_refused_holds : PySem.Challenge.rw_pursewise_k10_notes_refused.Holds := by
  w_on; o_law; k_head; (case hw => w_witness2)
  k_fill
  refine L2.walk_ofB (l := PySem.Challenge.rw_pursewise_k10_notes_refused) (n := 63) (k := 5) (x := "_law_script") (CX := fun _ => L2.CX0) (sp := fun w => K10.spLaw _) rfl (by decide) rfl ⟨rfl, by decide, by decide⟩ (fun w h Y => PySem.W.kIn_of Y) ?F (fun _ _ a ns hl hb _ hS => ⟨a, ns, rfl, hS, hl, hb, fun _ => rfl⟩) (fun _ _ _ _ _ h => h)
  case F =>
    intro w mg fa h KX G hmg
    refine' K10.all_mk KX G hmg ?a1 ?l1 ?c1 ?k1 ?a2 ?l2 ?c2 ?k2 ?a3 ?l3 ?c3 ?k3 ?a4 ?l4 ?c4 ?k4 ?a5 ?l5 ?c5 ?k5 ?a6 ?l6 ?c6 ?k6 ?a7 ?l7 ?c7 ?k7 ?a8 ?l8 ?c8 ?k8 ?a9 ?l9 ?c9 ?k9 ?a10 ?l10 ?c10 ?k10 ?a11 ?l11 ?c11 ?k11 ?a12 ?l12 ?c12 ?k12 ?a13 ?l13 ?c13 ?k13 ?a14 ?l14 ?c14 ?k14 ?a15 ?l15 ?c15 ?k15 ?a16 ?l16 ?c16 ?k16 ?z_ValueError ?z_bool ?z_int ?z_isinstance ?z_len ?z_list ?z_range ?z_str ?z_tuple ?ePurseError ?eNoGift ?eUnlike ?eGap ?eNoText ?xN ?kN ?bN ?tN ?q1PurseError ?q2PurseError ?q3PurseError ?q4PurseError ?ga ?gg ?hN ?gc ?gs ?gt ?mo ?kitNoText ?kitValueError ?kitNoGift ?kitUnlike ?kitGap ?eF ?clN
    (case a1 => k_is)
    (case l1 => k_is)
    (case c1 => k_is)
    (case k1 => k_is)
    (case a2 => k_is)
    (case l2 => k_is)
    (case c2 => k_is)
    (case k2 => k_is)
    (case a3 => k_is)
    (case l3 => k_is)
    (case c3 => k_is)
    (case k3 => k_is)
    (case a4 => k_is)
    (case l4 => k_is)
    (case c4 => k_is)
    (case k4 => k_is)
    (case a5 => k_is)
    (case l5 => k_is)
    (case c5 => k_is)
    (case k5 => k_is)
    (case a6 => k_is)
    (case l6 => k_is)
    (case c6 => k_is)
    (case k6 => k_is)
    (case a7 => k_is)
    (case l7 => k_is)
    (case c7 => k_is)
    (case k7 => k_is)
    (case a8 => k_is)
    (case l8 => k_is)
    (case c8 => k_is)
    (case k8 => k_is)
    (case a9 => k_is)
    (case l9 => k_is)
    (case c9 => k_is)
    (case k9 => k_is)
    (case a10 => k_is)
    (case l10 => k_is)
    (case c10 => k_is)
    (case k10 => k_is)
    (case a11 => k_is)
    (case l11 => k_is)
    (case c11 => k_is)
    (case k11 => k_is)
    (case a12 => k_is)
    (case l12 => k_is)
    (case c12 => k_is)
    (case k12 => k_is)
    (case a13 => k_is)
    (case l13 => k_is)
    (case c13 => k_is)
    (case k13 => k_is)
    (case a14 => k_is)
    (case l14 => k_is)
    (case c14 => k_is)
    (case k14 => k_is)
    (case a15 => k_is)
    (case l15 => k_is)
    (case c15 => k_is)
    (case k15 => k_is)
    (case a16 => k_is)
    (case l16 => k_is)
    (case c16 => k_is)
    (case k16 => k_is)
    (case z_ValueError => k_is)
    (case z_bool => k_is)
    (case z_int => k_is)
    (case z_isinstance => k_is)
    (case z_len => k_is)
    (case z_list => k_is)
    (case z_range => k_is)
    (case z_str => k_is)
    (case z_tuple => k_is)
    (case ePurseError => k_is)
    (case eNoGift => k_is)
    (case eUnlike => k_is)
    (case eGap => k_is)
    (case eNoText => k_is)
    (case xN => k_exc)
    (case kN => k_is)
    (case bN => k_is)
    (case tN => k_is)
    (case q1PurseError => k_is)
    (case q2PurseError => k_is)
    (case q3PurseError => k_is)
    (case q4PurseError => first | k_is | rfl)
    (case ga => k_is)
    (case gg => k_is)
    (case hN => k_is)
    (case gc => k_is)
    (case gs => first | k_is | rfl)
    (case gt => first | k_is | rfl)
    (case mo => k_is)
    (case kitNoText => first | k_is | rfl)
    (case kitValueError => first | k_is | rfl)
    (case kitNoGift => first | k_is | rfl)
    (case kitUnlike => first | k_is | rfl)
    (case kitGap => first | k_is | rfl)
    (case eF => first | k_is | rfl)
    (case clN => first | k_is | rfl | decide +kernel)

