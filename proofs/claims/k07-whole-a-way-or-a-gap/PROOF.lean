import PyProof.Rows.All
import Wide.All
import OpenK.AllK
import Wide.FinOn
import HandS.ForMost
import HandS.ForExc
import HandS.Evl
import HandS.EndBits
import HandS.WideBits
import HandS.SortKw
import HandS.SortInts
import HandS.IsInst
import HandS.Conv
import HandS.Codes
import HandS.Style
import HandS.Zip
import HandS.More
import HandS.ExcIs
import HandS.TryMany
import HandS.RevTup
import HandS.Rev
import HandS.EndTab
import KE.KSortKey
import KE.SortKeyHeap
import HandS.ExcInit
import HandS.ExcField
import KE.KIsAll
import KE.KExcIs
import KE.KTryMore
import PySem.Challenge.RW_pursewise_k07_whole_a_way_or_a_gap
set_option Elab.async false
set_option linter.all false
set_option maxRecDepth 100000
set_option maxHeartbeats 4000000
/-! Px: a small calculus of our own over HandS: what a reading does from a heap that may have grown (Kc), told by the smallest heap that matters. -/
namespace Px
open PySem PySem.Spec PyProof.Rows L2 Evl

/-! ### heaps -/
theorem Ex.updm {H H1 : Hp} {l : Addr} {o : HO} (e : Ex H H1) : Ex (upd H l o) (upd H1 l o) := fun a u h => by
  by_cases ha : a = l
  · subst ha
    rw [upd_same] at h ⊢
    exact h
  · rw [upd_ne ha] at h ⊢
    exact e a u h
theorem Ex.put {H H1 : Hp} {l : Addr} {o : HO} (e : Ex H H1) (h : H1 l = some o) : Ex (upd H l o) H1 := fun a u q => by
  by_cases ha : a = l
  · subst ha
    rw [upd_same] at q
    rw [h]
    exact q
  · rw [upd_ne ha] at q
    exact e a u q
theorem sq_up {K : PySem.W.Frag} {H : Hp} {a p : Addr} {xs : List V} {o : HO} (h : SqL K H a xs) (hp : H p = none) : SqL K (upd H p o) a xs := ex_l (Ex.new hp) h
/-- an object that stands, behind a new one at p -/
theorem at_up {H : Hp} {a p : Addr} {o u : HO} (h : H a = some u) (hp : H p = none) : upd H p o a = some u := by
  rw [upd_ne (ne_of_none h hp)]
  exact h
theorem none_of_up {H : Hp} {q p : Addr} {o : HO} (h : upd H p o q = none) : H q = none ∧ q ≠ p := by
  by_cases e : q = p
  · subst e
    rw [upd_same] at h
    cases h
  · rw [upd_ne e] at h
    exact ⟨h, e⟩

/-! ### a def of the module as its callers use it -/
structure Cl (P : Program) (w : World) (K : PySem.W.Frag) (mg : Str → Option Value) (base : Heap) (CX : CXT) (k : Nat) (x : Str) (f : Addr) (fd : FuncData) (ps : List Str) (sp : Sp) : Prop where
  ok : FnOk P w K mg base CX k f fd ps sp
  gl : mg x = some (.ref f)
  kp : PySem.W.keepIn K (.ref f) = true
  bd : Binds K fd ps []

/-! ### sizes of whole numbers: below 2 ^ n in size -/
def Bd (n : Nat) (i : Int) : Prop := i.natAbs < 2 ^ n
theorem Bd.mono {n m : Nat} {i : Int} (h : Bd n i) (k : n ≤ m) : Bd m i := Nat.lt_of_lt_of_le h (Nat.pow_le_pow_right (by decide) k)
theorem Bd.add {n m : Nat} {i j : Int} (h : Bd n i) (k : Bd m j) : Bd (max n m + 1) (i + j) := by
  have h1 : i.natAbs < 2 ^ max n m := h.mono (Nat.le_max_left _ _)
  have h2 : j.natAbs < 2 ^ max n m := k.mono (Nat.le_max_right _ _)
  unfold Bd
  rw [Nat.pow_succ]
  omega
theorem Bd.sub {n m : Nat} {i j : Int} (h : Bd n i) (k : Bd m j) : Bd (max n m + 1) (i - j) := by
  have h1 : i.natAbs < 2 ^ max n m := h.mono (Nat.le_max_left _ _)
  have h2 : j.natAbs < 2 ^ max n m := k.mono (Nat.le_max_right _ _)
  unfold Bd
  rw [Nat.pow_succ]
  omega
theorem Bd.mul {n m : Nat} {i j : Int} (h : Bd n i) (k : Bd m j) : Bd (n + m) (i * j) := by
  unfold Bd at *
  rw [Int.natAbs_mul, Nat.pow_add]
  exact Nat.mul_lt_mul'' h k
theorem Bd.mod {n : Nat} {i j : Int} (k : Bd n j) (h : 0 < j) : Bd n (i % j) := by
  have h1 := Int.emod_nonneg i (show j ≠ 0 by omega)
  have h2 := Int.emod_lt_of_pos i h
  unfold Bd at k ⊢
  omega
theorem Bd.div {n : Nat} {i j : Int} (h : Bd n i) : Bd n (i / j) := Nat.lt_of_le_of_lt (Int.natAbs_ediv_le_natAbs i j) h
theorem Bd.mulX {n m : Nat} {i j : Int} (h : Bd n i) (k : Bd m j) (hl : n + m ≤ 134217728) : CMulX i j := mulx_ok h k hl
theorem Bd.bits {n : Nat} {i : Int} (h : Builtin.Int.intBits i ≤ n) : Bd n i := by
  unfold Bd
  unfold Builtin.Int.intBits at h
  split at h
  · rename_i z
    have z2 : i = 0 := by simpa using z
    rw [z2]
    exact Nat.pow_pos (by decide)
  · have h2 : i.natAbs < 2 ^ (i.natAbs.log2 + 1) := Nat.lt_log2_self
    exact Nat.lt_of_lt_of_le h2 (Nat.pow_le_pow_right (by decide) h)
theorem Bd.le {n : Nat} {i j : Int} (h : i.natAbs ≤ j.natAbs) (k : Bd n j) : Bd n i := Nat.lt_of_le_of_lt h k
theorem bd_lit (i : Int) : Bd (i.natAbs.log2 + 1) i := Nat.lt_log2_self
theorem Bd.ite {n : Nat} {c : Prop} [Decidable c] {i j : Int} (h : Bd n i) (k : Bd n j) : Bd n (if c then i else j) := by
  split
  · exact h
  · exact k

/-! ### rules that name the written part K by itself (so that a comprehension's element can bear them) -/
section
variable {X : Cx} {K : PySem.W.Frag}
theorem ixl (h : X.K = K := by rfl) : IxR X (rIxL K) := h ▸ ix_list
theorem ixt (h : X.K = K := by rfl) : IxR X (rIxT K) := h ▸ ix_tup
theorem sll (h : X.K = K := by rfl) : SlR X (rSlL K) := h ▸ sl_list
theorem slt (h : X.K = K := by rfl) : SlR X (rSlT K) := h ▸ sl_tup
def rLn (K : PySem.W.Frag) : List V → Hp → VK → Prop := fun xs H Q => ∃ p ys, xs = [.ref p] ∧ (SqL K H p ys ∨ SqT K H p ys) ∧ Q (.int ys.length) H
theorem bLen (h : X.K = K := by rfl) : CallR X (.builtin "len") (rLn K) := h ▸ call_len_seq
def rLs (K : PySem.W.Frag) : List V → Hp → VK → Prop := fun xs H Q => ∃ p ys, xs = [.ref p] ∧ (SqL K H p ys ∨ SqT K H p ys) ∧ ∀ l, H l = none → Q (.ref l) (upd H l (.lst ys))
theorem bList (h : X.K = K := by rfl) : CallR X (.type "list") (rLs K) := h ▸ call_list_of
theorem bSum (hc : X.calm = true) (h : X.K = K := by rfl) : CallR X (.builtin "sum") (rSum K) := h ▸ cr_sum hc
theorem bMin (hc : X.calm = true) (h : X.K = K := by rfl) : CallR X (.builtin "min") (rMin K) := h ▸ cr_min hc
theorem bMax (hc : X.calm = true) (h : X.K = K := by rfl) : CallR X (.builtin "max") (rMax K) := h ▸ cr_max hc
theorem bIsi (h : X.K = K := by rfl) : CallR X (.builtin "isinstance") (rIsi K) := h ▸ call_isi
theorem bSrt (h : X.K = K := by rfl) : CallR X (.builtin "sorted") (rSortedI K) := h ▸ cr_sortedI
theorem bSrtR (h : X.K = K := by rfl) : CallRK X (.builtin "sorted") [Str.ofString "reverse"] (rSortedKw K true [.bl true]) := h ▸ cr_sortedRev
theorem oEqD (hu : X.A.units + 64 < cLine) (h : X.K = K := by rfl) : OpR X (compareOp .Eq) (rEqD K) := h ▸ op_eqD hu
theorem oNeD (hu : X.A.units + 64 < cLine) (h : X.K = K := by rfl) : OpR X (compareOp .NotEq) (rNeD K) := h ▸ op_neD hu
theorem piL {tg l : Expr} {tl : TE} (hl : PE X l tl) (h : X.K = K := by rfl) : PI X tg l (iList K tl) := h ▸ pi_list hl
theorem piT {tg l : Expr} {tl : TE} (hl : PE X l tl) (h : X.K = K := by rfl) : PI X tg l (iTup K tl) := h ▸ pi_tup hl
theorem piZ {e e2 : Expr} {ta : TA} {p pos tpos : Pos} {elts : List Expr} {kk : Nat} (hg : Gl X "zip") (hm : X.mg "zip" = none) (ha : PA X [e, e2] ta) (h : X.K = K := by rfl)
    (hs : starEach [e, e2] X.env = (false, eval e X.env) :: starEach [e2] X.env := by rfl) (hpl : (backTo pos (starEach [e2] X.env)).any (·.1) = false := by rfl) :
    PI X (.Tuple elts kk tpos) (.Call (.Name "zip" p) [e, e2] [] pos) (iZip K ta) := h ▸ pi_zip hg hm ha hs hpl
theorem peBm {o e : Expr} {es : List Expr} {to : TE} {t : TA} {name : Str} {apos cpos : Pos} {T id : String} {r : V → List V → Hp → VK → Prop} (pa : PlainAttrs T) (slot : Slot T name id) (hty : typeOf (.builtin id) = pure (.type "method_descriptor")) (hm : MtR X id r) (ho : PE X o to) (ha : PA X (e :: es) t) (h : X.K = K := by rfl)
    (hbase : attributeBase o name X.env (eval o X.env) = eval o X.env := by rfl) (hline : (apos.endLine == cpos.line) = true := by rfl)
    (hs : starEach (e :: es) X.env = (false, eval e X.env) :: starEach es X.env := by rfl)
    (hfew : ((((backTo cpos (starEach (e :: es) X.env)).all fun x => !x.1) && (backToKw cpos (keywordEach [] X.env)).all fun x => x.1.isSome) && decide (((e :: es).length + ([] : List Keyword).length + if ([] : List Keyword).isEmpty then 0 else 1) < 30)) = true := by rfl)
    (hpl : (backTo cpos (starEach es X.env)).any (·.1) = false := by rfl) : PE X (.Call (.Attribute o name apos) (e :: es) [] cpos) (tBM K T r to t) := h ▸ pe_bm pa slot hty hm ho ha hbase hfew hline hs hpl
theorem peBm0 {o : Expr} {to : TE} {name : Str} {apos cpos : Pos} {T id : String} {r : V → List V → Hp → VK → Prop} (pa : PlainAttrs T) (slot : Slot T name id) (hty : typeOf (.builtin id) = pure (.type "method_descriptor")) (hm : MtR X id r) (ho : PE X o to) (h : X.K = K := by rfl)
    (hbase : attributeBase o name X.env (eval o X.env) = eval o X.env := by rfl) (hline : (apos.endLine == cpos.line) = true := by rfl) : PE X (.Call (.Attribute o name apos) [] [] cpos) (tBM0 K T r to) := h ▸ pe_bm0 pa slot hty hm ho hbase hline
theorem pgT {es : List Expr} {k : Nat} {pos : Pos} {t : TGs} {n : Nat} (hc : X.calm = true) (hh : PGs X es t) (h : X.K = K := by rfl)
    (hn : (assignEach es X.env).length = n := by rfl) (hst : (assignEach es X.env).findIdx? (·.1) = none := by rfl) : PG X (.Tuple es k pos) (gTup K n t) := h ▸ pg_tup hc hh hn hst
end

/-! ### the calculus -/
def Kc {α : Type} (m : Hp → (α → Hp → Prop) → Prop) (H : Hp) (P : α → Hp → Prop) : Prop := ∀ H1, Ex H H1 → ∀ Q : α → Hp → Prop, (∀ v H2, (∃ Hx, Ex Hx H2 ∧ P v Hx) → Q v H2) → m H1 Q
theorem kc_pure {α : Type} {v : α} {H : Hp} {P : α → Hp → Prop} (h : P v H) : Kc (fun H Q => Q v H) H P := fun H1 e _ k => k v H1 ⟨H, e, h⟩
theorem kc_bind {α β : Type} {m : Hp → (α → Hp → Prop) → Prop} {f : α → Hp → (β → Hp → Prop) → Prop} {H : Hp} {P : β → Hp → Prop} (h : Kc m H fun v Hx => Kc (f v) Hx P) : Kc (fun H Q => m H fun v H1 => f v H1 Q) H P := fun H1 e Q k =>
  h H1 e _ fun v H2 ⟨_, ex, hf⟩ => hf H2 ex Q k
theorem Kc.mono {α : Type} {m : Hp → (α → Hp → Prop) → Prop} {H H' : Hp} {P : α → Hp → Prop} (e : Ex H H') (h : Kc m H P) : Kc m H' P := fun H1 a Q k => h H1 (e.trans a) Q k
theorem Kc.imp {α : Type} {m : Hp → (α → Hp → Prop) → Prop} {H : Hp} {P P' : α → Hp → Prop} (h : Kc m H P) (i : ∀ v Hx, P v Hx → P' v Hx) : Kc m H P' := fun H1 a Q k => h H1 a Q fun v H2 ⟨Hx, ex, p⟩ => k v H2 ⟨Hx, ex, i v Hx p⟩
abbrev EvK (te : TE) (σ : L2.St) (H : Hp) (P : V → Hp → Prop) : Prop := Kc (te σ) H P
abbrev EvAK (ta : TA) (σ : L2.St) (H : Hp) (P : List V → Hp → Prop) : Prop := Kc (ta σ) H P
abbrev EvTK (tt : TT) (σ : L2.St) (H : Hp) (P : Bool → Hp → Prop) : Prop := Kc (tt σ) H P
abbrev EvOK (to : TO) (σ : L2.St) (H : Hp) (P : Option Int → Hp → Prop) : Prop := Kc (to σ) H P
abbrev RK (r : R2) (x y : V) (H : Hp) (P : V → Hp → Prop) : Prop := Kc (r x y) H P
abbrev CK (r : List V → Hp → VK → Prop) (vs : List V) (H : Hp) (P : V → Hp → Prop) : Prop := Kc (r vs) H P
abbrev MK (r : V → List V → Hp → VK → Prop) (x : V) (vs : List V) (H : Hp) (P : V → Hp → Prop) : Prop := Kc (r x vs) H P
def SpK (sp : Sp) (vs : List V) (H : Hp) (P : V → Hp → Prop) : Prop := ∀ E : XK, Kc (fun H Q => sp vs H Q E) H P
def Go (t : TS) (D : Ends) (σ : L2.St) (H : Hp) : Prop := ∀ H1, Ex H H1 → t D σ H1
/-- what is wished of a value at a heap that may have grown -/
def KQ (Q : VK) (v : V) (Hx : Hp) : Prop := ∀ H1, Ex Hx H1 → Q v H1
theorem KQ.up {Q : VK} {v : V} {H H' : Hp} (h : KQ Q v H) (e : Ex H H') : KQ Q v H' := fun H1 a => h H1 (e.trans a)
section
variable {K : PySem.W.Frag} {σ : L2.St} {H H' : Hp} {ta tb tc te tx : TE} {t u : TT} {x y z v : V} {r r' : R2} {P : V → Hp → Prop} {D : Ends}

/-! ### expressions -/
theorem k_var {i : Nat} (h : σ[i]? = some (some v)) (hp : P v H) : EvK (tVar i) σ H P := fun H1 e _ k => ⟨v, h, k v H1 ⟨H, e, hp⟩⟩
theorem k_c (hp : P v H) : EvK (tC v) σ H P := kc_pure hp
theorem k_op (h : EvK ta σ H fun x Hx => EvK tb σ Hx fun y Hy => RK r x y Hy P) : EvK (tOp r ta tb) σ H P := kc_bind (f := fun x H1 Q => tb σ H1 fun y H2 => r x y H2 Q) (h.imp fun _ _ h2 => kc_bind h2)
theorem k_un {ru : V → Hp → VK → Prop} (h : EvK ta σ H fun x Hx => Kc (ru x) Hx P) : EvK (tUn ru ta) σ H P := kc_bind (f := fun x H1 Q => ru x H1 Q) h
theorem k_cb {rc : List V → Hp → VK → Prop} {tl : TA} (h : EvAK tl σ H fun vs Hx => CK rc vs Hx P) : EvK (tCB rc tl) σ H P := kc_bind (f := fun vs H1 Q => rc vs H1 Q) h
theorem k_ckw {rc : List V → List V → Hp → VK → Prop} {tl tk : TA} (h : EvAK tl σ H fun vs Hx => EvAK tk σ Hx fun zs Hz => Kc (rc vs zs) Hz P) : EvK (tCKw rc tl tk) σ H P := kc_bind (f := fun vs H1 Q => tk σ H1 fun zs H2 => rc vs zs H2 Q) (h.imp fun _ _ h2 => kc_bind h2)
theorem k_call {sp : Sp} {dvs : List V} {E : XK} {tl : TA} (h : EvAK tl σ H fun vs Hx => SpK sp (vs ++ dvs) Hx P) : EvK (tCall sp dvs E tl) σ H P := kc_bind (f := fun vs H1 Q => sp (vs ++ dvs) H1 Q E) (h.imp fun _ _ h2 => h2 E)
theorem k_nil {PA : List V → Hp → Prop} (h : PA [] H) : EvAK tNil σ H PA := kc_pure h
theorem k_cons {tr : TA} {PA : List V → Hp → Prop} (h : EvK ta σ H fun x Hx => EvAK tr σ Hx fun vs Hy => PA (x :: vs) Hy) : EvAK (tCons ta tr) σ H PA :=
  kc_bind (f := fun x H1 Q => tr σ H1 fun xs H2 => Q (x :: xs) H2) (h.imp fun x _ h2 => kc_bind (f := fun xs H2 Q => Q (x :: xs) H2) (h2.imp fun _ _ h3 => kc_pure h3))
theorem k_tup {tl : TA} (h : EvAK tl σ H fun vs Hx => vs.length ≤ 100000 ∧ ∀ p, Hx p = none → P (.ref p) (upd Hx p (.tup vs))) : EvK (tTup tl) σ H P :=
  fun H1 e Q k => h H1 e _ fun vs H2 ⟨Hx, ex, hl, hp⟩ => ⟨sz_of hl, fun p np => k _ _ ⟨_, Ex.updm ex, hp p (fresh_back ex np)⟩⟩
theorem k_lst {tl : TA} (h : EvAK tl σ H fun vs Hx => vs.length ≤ 100000 ∧ ∀ p, Hx p = none → P (.ref p) (upd Hx p (.lst vs))) : EvK (tLst tl) σ H P :=
  fun H1 e Q k => h H1 e _ fun vs H2 ⟨Hx, ex, hl, hp⟩ => ⟨sz_of hl, fun p np => k _ _ ⟨_, Ex.updm ex, hp p (fresh_back ex np)⟩⟩
theorem k_chain (h : EvK ta σ H fun x Hx => EvK tb σ Hx fun y Hy => RK r x y Hy fun z Hz => ∃ b, z = .bl b ∧ (b = true → EvK tc σ Hz fun w Hw => RK r' y w Hw P) ∧ (b = false → P (.bl false) Hz)) : EvK (tChain r r' ta tb tc) σ H P :=
  fun H1 e Q k => h H1 e _ fun x H2 ⟨Hx, ex, h2⟩ => h2 H2 ex _ fun y H3 ⟨Hy, ey, h3⟩ => h3 H3 ey _ fun z H4 ⟨Hz, ez, b, eb, ht, hf⟩ => ⟨b, eb, by
    cases b with
    | true =>
      rw [if_pos rfl]
      exact ht rfl H4 ez _ fun w H5 ⟨Hw, ew, h5⟩ => h5 H5 ew Q k
    | false =>
      rw [if_neg Bool.false_ne_true]
      exact k _ _ ⟨Hz, ez, hf rfl⟩⟩
theorem k_andV (h : EvK ta σ H fun x Hx => ∃ b, x = .bl b ∧ (b = true → EvK tb σ Hx P) ∧ (b = false → P (.bl false) Hx)) : EvK (tAndV ta tb) σ H P :=
  fun H1 e Q k => h H1 e _ fun x H2 ⟨Hx, ex, b, eb, ht, hf⟩ => ⟨b, eb, by
    cases b with
    | true =>
      rw [if_pos rfl]
      exact ht rfl H2 ex Q k
    | false =>
      rw [if_neg Bool.false_ne_true]
      exact k _ _ ⟨Hx, ex, hf rfl⟩⟩
theorem k_orV (h : EvK ta σ H fun x Hx => ∃ b, x = .bl b ∧ (b = true → P (.bl true) Hx) ∧ (b = false → EvK tb σ Hx P)) : EvK (tOrV ta tb) σ H P :=
  fun H1 e Q k => h H1 e _ fun x H2 ⟨Hx, ex, b, eb, ht, hf⟩ => ⟨b, eb, by
    cases b with
    | true =>
      rw [if_pos rfl]
      exact k _ _ ⟨Hx, ex, ht rfl⟩
    | false =>
      rw [if_neg Bool.false_ne_true]
      exact hf rfl H2 ex Q k⟩
theorem k_notV (h : EvK ta σ H fun x Hx => ∃ b, x = .bl b ∧ P (.bl (!b)) Hx) : EvK (tNotV ta) σ H P :=
  fun H1 e Q k => h H1 e _ fun x H2 ⟨Hx, ex, b, eb, hp⟩ => ⟨b, eb, k _ _ ⟨Hx, ex, hp⟩⟩
theorem k_sl {rs : V → Option Int → Option Int → Hp → VK → Prop} {tl th : TO} (h : EvK te σ H fun x Hx => EvOK tl σ Hx fun l Hl => EvOK th σ Hl fun u Hu => Kc (rs x l u) Hu P) : EvK (tSl rs te tl th) σ H P :=
  fun H1 e Q k => h H1 e _ fun x H2 ⟨_, ex, h2⟩ => h2 H2 ex _ fun l H3 ⟨_, el, h3⟩ => h3 H3 el _ fun u H4 ⟨_, eu, h4⟩ => h4 H4 eu Q k
theorem k_nopart {PO : Option Int → Hp → Prop} (h : PO none H) : EvOK tNoPart σ H PO := kc_pure h
theorem k_part {PO : Option Int → Hp → Prop} (h : EvK te σ H fun x Hx => ∃ i, x = .int i ∧ PO (some i) Hx) : EvOK (tPart te) σ H PO :=
  fun H1 e Q k => h H1 e _ fun x H2 ⟨Hx, ex, i, ei, hp⟩ => ⟨i, ei, k _ _ ⟨Hx, ex, hp⟩⟩
theorem k_bm {T : String} {rm : V → List V → Hp → VK → Prop} {tl : TA} (h : EvK ta σ H fun x Hx => (∀ H1, Ex Hx H1 → tyV K T x H1) ∧ EvAK tl σ Hx fun vs Hy => MK rm x vs Hy P) : EvK (tBM K T rm ta tl) σ H P :=
  fun H1 e Q k => h H1 e _ fun x H2 ⟨Hx, ex, hty, h2⟩ => ⟨hty H2 ex, h2 H2 ex _ fun vs H3 ⟨Hy, ey, h3⟩ => h3 H3 ey Q k⟩
theorem k_bm0 {T : String} {rm : V → List V → Hp → VK → Prop} (h : EvK ta σ H fun x Hx => (∀ H1, Ex Hx H1 → tyV K T x H1) ∧ MK rm x [] Hx P) : EvK (tBM0 K T rm ta) σ H P :=
  fun H1 e Q k => h H1 e _ fun x H2 ⟨Hx, ex, hty, h2⟩ => ⟨hty H2 ex, h2 H2 ex Q k⟩
theorem tyl {a : Addr} {xs : List V} (h : SqL K H a xs) : ∀ H1, Ex H H1 → tyV K "list" (.ref a) H1 := fun H1 e => Or.inl ⟨rfl, _, ex_l e h⟩

/-! ### tests -/
theorem kt_test {PB : Bool → Hp → Prop} (h : EvK te σ H fun x Hx => ∃ b, x = .bl b ∧ PB b Hx) : EvTK (tTest te) σ H PB := fun H1 e Q k => h H1 e _ fun x H2 ⟨Hx, ex, b, eb, hp⟩ => ⟨b, eb, k _ _ ⟨Hx, ex, hp⟩⟩
theorem kt_B {PB : Bool → Hp → Prop} (h : EvK te σ H fun x Hx => ∃ b, x = .bl b ∧ PB b Hx) : EvTK (tB te) σ H PB := fun H1 e Q k => h H1 e _ fun x H2 ⟨Hx, ex, b, eb, hp⟩ => ⟨b, eb, k _ _ ⟨Hx, ex, hp⟩⟩
theorem kt_yes {PB : Bool → Hp → Prop} (h : PB true H) : EvTK tYes σ H PB := kc_pure h
theorem kt_and {PB : Bool → Hp → Prop} (h : EvTK t σ H fun b Hx => (b = true → EvTK u σ Hx PB) ∧ (b = false → PB false Hx)) : EvTK (tAnd t u) σ H PB := fun H1 e Q k => h H1 e _ fun b H2 ⟨Hx, ex, ht, hf⟩ => by
  cases b with
  | true =>
    rw [if_pos rfl]
    exact ht rfl H2 ex Q k
  | false =>
    rw [if_neg Bool.false_ne_true]
    exact k _ _ ⟨Hx, ex, hf rfl⟩
theorem kt_or {PB : Bool → Hp → Prop} (h : EvTK t σ H fun b Hx => (b = true → PB true Hx) ∧ (b = false → EvTK u σ Hx PB)) : EvTK (tOr t u) σ H PB := fun H1 e Q k => h H1 e _ fun b H2 ⟨Hx, ex, ht, hf⟩ => by
  cases b with
  | true =>
    rw [if_pos rfl]
    exact k _ _ ⟨Hx, ex, ht rfl⟩
  | false =>
    rw [if_neg Bool.false_ne_true]
    exact hf rfl H2 ex Q k
theorem kt_not {PB : Bool → Hp → Prop} (h : EvTK t σ H fun b Hx => PB (!b) Hx) : EvTK (tNot t) σ H PB := fun H1 e Q k => h H1 e _ fun b H2 ⟨Hx, ex, hp⟩ => k _ _ ⟨Hx, ex, hp⟩

/-! ### operations on values -/
theorem r_I0 {g : Int → Int → V} {i j : Int} (h : P (g i j) H) : RK (rI0 g) (.int i) (.int j) H P := fun H1 e Q k => ⟨i, j, rfl, rfl, k _ _ ⟨H, e, h⟩⟩
theorem r_I {C : Int → Int → Prop} {g : Int → Int → V} {i j : Int} (h : C i j ∧ P (g i j) H) : RK (rI C g) (.int i) (.int j) H P := fun H1 e Q k => ⟨i, j, rfl, rfl, h.1, k _ _ ⟨H, e, h.2⟩⟩
theorem r_I' {C : Int → Int → Prop} {g : Int → Int → V} {i j : Int} (h : P (g i j) H) (hc : C i j) : RK (rI C g) (.int i) (.int j) H P := r_I ⟨hc, h⟩
theorem r_eq (h : scal x y = true ∧ P (.bl (decide (x = y))) H) : RK rEq x y H P := fun H1 e Q k => ⟨h.1, k _ _ ⟨H, e, h.2⟩⟩
theorem r_ne (h : scal x y = true ∧ P (.bl (!decide (x = y))) H) : RK rNe x y H P := fun H1 e Q k => ⟨h.1, k _ _ ⟨H, e, h.2⟩⟩
theorem r_eqI {i j : Int} (h : P (.bl (decide (i = j))) H) : RK rEq (.int i) (.int j) H P := r_eq ⟨rfl, by
  have e : decide (V.int i = V.int j) = decide (i = j) := by
    by_cases c : i = j
    · subst c
      rw [decide_eq_true rfl, decide_eq_true rfl]
    · rw [decide_eq_false c, decide_eq_false fun z => c (V.int.inj z)]
  rw [e]
  exact h⟩
theorem r_neI {i j : Int} (h : P (.bl (!decide (i = j))) H) : RK rNe (.int i) (.int j) H P := r_ne ⟨rfl, by
  have e : decide (V.int i = V.int j) = decide (i = j) := by
    by_cases c : i = j
    · subst c
      rw [decide_eq_true rfl, decide_eq_true rfl]
    · rw [decide_eq_false c, decide_eq_false fun z => c (V.int.inj z)]
  rw [e]
  exact h⟩
theorem r_neg {i : Int} (h : P (.int (-i)) H) : Kc (rU (fun i => V.int (-i)) (.int i)) H P := fun H1 e Q k => ⟨i, rfl, k _ _ ⟨H, e, h⟩⟩
theorem r_ixL {p : Addr} {xs : List V} {i : Int} (h : SqL K H p xs) (ha : atI xs i = some v) (hp : P v H) : RK (rIxL K) (.ref p) (.int i) H P := fun H1 e Q k => ⟨p, xs, i, v, rfl, rfl, ex_l e h, ha, k _ _ ⟨H, e, hp⟩⟩
theorem r_ixT {p : Addr} {xs : List V} {i : Int} (h : SqT K H p xs) (ha : atI xs i = some v) (hp : P v H) : RK (rIxT K) (.ref p) (.int i) H P := fun H1 e Q k => ⟨p, xs, i, v, rfl, rfl, ex_t e h, ha, k _ _ ⟨H, e, hp⟩⟩
theorem r_slL {p : Addr} {xs : List V} {lo hi : Option Int} (h : SqL K H p xs) (hp : ∀ q, H q = none → P (.ref q) (upd H q (.lst (cutV xs lo hi)))) : Kc (rSlL K (.ref p) lo hi) H P := fun H1 e Q k => ⟨p, xs, rfl, ex_l e h, fun q nq => k _ _ ⟨_, Ex.updm e, hp q (fresh_back e nq)⟩⟩
theorem r_isN (h : P (.bl (decide (x = .non))) H) : RK (fun x y H Q => y = .non ∧ Q (.bl (decide (x = .non))) H) x .non H P := fun H1 e Q k => ⟨rfl, k _ _ ⟨H, e, h⟩⟩
theorem r_notN (h : P (.bl (!decide (x = .non))) H) : RK (fun x y H Q => y = .non ∧ Q (.bl (!decide (x = .non))) H) x .non H P := fun H1 e Q k => ⟨rfl, k _ _ ⟨H, e, h⟩⟩
theorem r_isB {a b : Bool} (h : P (.bl (decide (a = b))) H) : RK rIsB (.bl a) (.bl b) H P := fun H1 e Q k => ⟨a, b, rfl, rfl, k _ _ ⟨H, e, h⟩⟩
mutual
theorem dp_ex {H H1 : Hp} (e : Ex H H1) : ∀ {v : V} {d : PyData}, Dp K H v d → Dp K H1 v d
  | _, _, .non => .non
  | _, _, .bl b => .bl b
  | _, _, .int i => .int i
  | _, _, .str x => .str x
  | _, _, .lst h k => .lst (ex_l e h) (dpa_ex e k)
  | _, _, .tup h k => .tup (ex_t e h) (dpa_ex e k)
theorem dpa_ex {H H1 : Hp} (e : Ex H H1) : ∀ {vs : List V} {ds : List PyData}, DpAll K H vs ds → DpAll K H1 vs ds
  | _, _, .nil => .nil
  | _, _, .cons h k => .cons (dp_ex e h) (dpa_ex e k)
end
theorem r_eqD {d d' : PyData} (h1 : Dp K H x d) (h2 : Dp K H y d') (s1 : SeqAt.shaped d = true) (s2 : SeqAt.shaped d' = true) (hp : P (.bl (PyData.eqv d d')) H) : RK (rEqD K) x y H P := fun H1 e Q k => ⟨d, d', dp_ex e h1, dp_ex e h2, s1, s2, k _ _ ⟨H, e, hp⟩⟩
theorem r_neD {d d' : PyData} (h1 : Dp K H x d) (h2 : Dp K H y d') (s1 : SeqAt.shaped d = true) (s2 : SeqAt.shaped d' = true) (hp : P (.bl (!PyData.eqv d d')) H) : RK (rNeD K) x y H P := fun H1 e Q k => ⟨d, d', dp_ex e h1, dp_ex e h2, s1, s2, k _ _ ⟨H, e, hp⟩⟩
theorem eqv_self {d : PyData} (h : SeqAt.shaped d = true) : PyData.eqv d d = true := SeqAt.eqv_refl d (SeqAt.canLay_of_shaped h)
/-- both the same data -/
theorem r_eqS {d : PyData} (h1 : Dp K H x d) (h2 : Dp K H y d) (s1 : SeqAt.shaped d = true) (hp : P (.bl true) H) : RK (rEqD K) x y H P := r_eqD h1 h2 s1 s1 (by rw [eqv_self s1]; exact hp)
theorem r_neS {d : PyData} (h1 : Dp K H x d) (h2 : Dp K H y d) (s1 : SeqAt.shaped d = true) (hp : P (.bl false) H) : RK (rNeD K) x y H P := r_neD h1 h2 s1 s1 (by rw [eqv_self s1]; exact hp)
theorem dpa_ints : ∀ ns : List Int, DpAll K H (ns.map V.int) (ns.map PyData.int)
  | [] => .nil
  | n :: ns => .cons (.int n) (dpa_ints ns)
theorem dp_ints {a : Addr} {ns : List Int} (h : SqL K H a (ns.map V.int)) : Dp K H (.ref a) (.list (ns.map PyData.int)) := .lst h (dpa_ints ns)
theorem lay_ints : ∀ ns : List Int, PyData.canLayAll0 (ns.map PyData.int) = true
  | [] => rfl
  | n :: ns => by
    show (PyData.canLay0 (.int n) && PyData.canLayAll0 (ns.map PyData.int)) = true
    rw [lay_ints ns]
    rfl
theorem dep_ints : ∀ ns : List Int, PyData.depthAll (ns.map PyData.int) = 0
  | [] => rfl
  | n :: ns => by
    show max (PyData.depth (.int n)) (PyData.depthAll (ns.map PyData.int)) = 0
    rw [dep_ints ns]
    rfl
theorem sh_ints (ns : List Int) : SeqAt.shaped (.list (ns.map PyData.int)) = true := by
  show (PyData.canLayAll0 (ns.map PyData.int) && decide (PyData.depthAll (ns.map PyData.int) + 1 ≤ 64)) = true
  rw [lay_ints, dep_ints]
  rfl
/-- two lists of the same whole numbers -/
theorem r_eqI2 {a b : Addr} {ns : List Int} (h1 : SqL K H a (ns.map V.int)) (h2 : SqL K H b (ns.map V.int)) (hp : P (.bl true) H) : RK (rEqD K) (.ref a) (.ref b) H P := r_eqS (dp_ints h1) (dp_ints h2) (sh_ints ns) hp
theorem r_neI2 {a b : Addr} {ns : List Int} (h1 : SqL K H a (ns.map V.int)) (h2 : SqL K H b (ns.map V.int)) (hp : P (.bl false) H) : RK (rNeD K) (.ref a) (.ref b) H P := r_neS (dp_ints h1) (dp_ints h2) (sh_ints ns) hp
theorem r_cat {l b : Addr} {xs zs : List V} (h1 : H l = some (.lst xs)) (h2 : H b = some (.lst zs)) (hz : xs.length + zs.length ≤ 100000) (hp : ∀ p, H p = none → P (.ref p) (upd H p (.lst (xs ++ zs)))) : RK rCat (.ref l) (.ref b) H P := fun H1 e Q k =>
  ⟨l, b, xs, zs, rfl, rfl, e _ _ h1, e _ _ h2, sz_of hz, fun p np => k _ _ ⟨_, Ex.updm e, hp p (fresh_back e np)⟩⟩

theorem cut_from (xs : List V) : cutV xs (some 1) none = xs.drop 1 := by
  unfold cutV
  rw [show HT.sIx xs.length 0 (some 1) = min 1 xs.length from HT.sIx_nat xs.length 0 1, HT.sIx_none]
  cases xs with
  | nil => rfl
  | cons x r =>
    rw [show min 1 (x :: r).length = 1 by
      rw [List.length_cons]
      omega]
    show (List.take ((x :: r).length - 1) r) = r
    rw [List.length_cons, Nat.add_sub_cancel]
    exact List.take_length

theorem cut_to {xs : List V} {k : Nat} (h : k ≤ xs.length) : cutV xs none (some (k : Int)) = xs.take k := by
  unfold cutV
  rw [show HT.sIx xs.length xs.length (some (k : Int)) = min k xs.length from HT.sIx_nat xs.length xs.length k, HT.sIx_none, Nat.min_eq_left h, List.drop_zero, Nat.sub_zero]

theorem cut_ints (ns : List Int) (lo hi : Option Int) : ∃ cs : List Int, cutV (ns.map V.int) lo hi = cs.map V.int ∧ (∀ z ∈ cs, z ∈ ns) ∧ cs.length ≤ ns.length := by
  unfold cutV
  rw [← List.map_drop, ← List.map_take]
  refine ⟨_, rfl, fun z hz => List.mem_of_mem_drop (List.mem_of_mem_take hz), ?_⟩
  rw [List.length_take, List.length_drop]
  omega

/-! ### calls of built-ins -/
theorem c_len {p : Addr} {xs : List V} (h : SqL K H p xs) (hp : P (.int xs.length) H) : CK (rLn K) [.ref p] H P := fun H1 e Q k => ⟨p, xs, rfl, .inl (ex_l e h), k _ _ ⟨H, e, hp⟩⟩
theorem c_lenT {p : Addr} {xs : List V} (h : SqT K H p xs) (hp : P (.int xs.length) H) : CK (rLn K) [.ref p] H P := fun H1 e Q k => ⟨p, xs, rfl, .inr (ex_t e h), k _ _ ⟨H, e, hp⟩⟩
theorem c_list {p : Addr} {xs : List V} (h : SqL K H p xs) (hp : ∀ q, H q = none → P (.ref q) (upd H q (.lst xs))) : CK (rLs K) [.ref p] H P := fun H1 e Q k => ⟨p, xs, rfl, .inl (ex_l e h), fun q nq => k _ _ ⟨_, Ex.updm e, hp q (fresh_back e nq)⟩⟩
theorem c_sum {p : Addr} {ns : List Int} (h : SqL K H p (ns.map V.int)) (hp : P (.int ns.sum) H) : CK (rSum K) [.ref p] H P := fun H1 e Q k => ⟨p, ns, rfl, ex_l e h, k _ _ ⟨H, e, hp⟩⟩
theorem c_min {p : Addr} {ns : List Int} (h : SqL K H p (ns.map V.int)) (h0 : 0 < ns.length) (hp : ∀ m, m ∈ ns → (∀ y, y ∈ ns → m ≤ y) → P (.int m) H) : CK (rMin K) [.ref p] H P := fun H1 e Q k => ⟨p, ns, rfl, ex_l e h, h0, fun m hm hl => k _ _ ⟨H, e, hp m hm hl⟩⟩
theorem c_max {p : Addr} {ns : List Int} (h : SqL K H p (ns.map V.int)) (h0 : 0 < ns.length) (hp : ∀ m, m ∈ ns → (∀ y, y ∈ ns → y ≤ m) → P (.int m) H) : CK (rMax K) [.ref p] H P := fun H1 e Q k => ⟨p, ns, rfl, ex_l e h, h0, fun m hm hl => k _ _ ⟨H, e, hp m hm hl⟩⟩
theorem c_max2 {i j : Int} (hp : P (.int (if j > i then j else i)) H) : CK (fun xs H Q => ∃ i j, xs = [.int i, .int j] ∧ Q (.int (if j > i then j else i)) H) [.int i, .int j] H P := fun H1 e Q k => ⟨i, j, rfl, k _ _ ⟨H, e, hp⟩⟩
theorem c_min2 {i j : Int} (hp : P (.int (if j < i then j else i)) H) : CK (fun xs H Q => ∃ i j, xs = [.int i, .int j] ∧ Q (.int (if j < i then j else i)) H) [.int i, .int j] H P := fun H1 e Q k => ⟨i, j, rfl, k _ _ ⟨H, e, hp⟩⟩
theorem c_intB {b : Bool} (hp : P (.int (if b then 1 else 0)) H) : CK (fun xs H Q => (∃ i, xs = [.int i] ∧ Q (.int i) H) ∨ ∃ k, xs = [.bl k] ∧ Q (.int (if k then 1 else 0)) H) [.bl b] H P := fun H1 e Q k => .inr ⟨b, rfl, k _ _ ⟨H, e, hp⟩⟩
theorem tyx_ex {H1 : Hp} (e : Ex H H1) {t : Value} (h : TyX K H x t) : TyX K H1 x t := by
  cases h with
  | base b =>
    refine .base ?_
    cases b with
    | non => exact .non
    | bl y => exact .bl y
    | int i => exact .int i
    | str y => exact .str y
    | flt y => exact .flt y
    | lst ea => exact .lst (e _ _ ea)
    | frz ea => exact .frz (e _ _ ea)
    | tup ea => exact .tup (e _ _ ea)
    | dK ea => exact .dK (e _ _ ea)
    | dT ea => exact .dT (e _ _ ea)
    | ins ea cl ha hn htk hm => exact .ins (e _ _ ea) cl ha hn htk hm
  | byt y => exact .byt y
  | set ea => exact .set (e _ _ ea)
  | kList ea c => exact .kList ea c
  | kTuple ea c => exact .kTuple ea c
  | kDict ea c => exact .kDict ea c
  | fTuple ea => exact .fTuple (e _ _ ea)
  | fDict ea => exact .fDict (e _ _ ea)
theorem c_isi {n : String} {a : String} {b : Bool} (ty : TyX K H x (.type a)) (hk : kitB a n = some b) (hp : P (.bl b) H) : CK (rIsi K) [x, .ty n] H P := fun H1 e Q k => ⟨x, .ty n, .type a, .type n, b, rfl, .ty n, tyx_ex e ty, kit_ty hk, k _ _ ⟨H, e, hp⟩⟩
theorem ty_lst {a : Addr} {xs : List V} (h : H a = some (.lst xs)) : TyX K H (.ref a) (.type "list") := .base (.lst h)
theorem ty_tup {a : Addr} {xs : List V} (h : H a = some (.tup xs)) : TyX K H (.ref a) (.type "tuple") := .base (.tup h)
theorem c_list_list {a : Addr} {xs : List V} (h : H a = some (.lst xs)) (hp : P (.bl true) H) : CK (rIsi K) [.ref a, .ty "list"] H P := c_isi (ty_lst h) (by decide +kernel) hp
theorem c_tup_tup {a : Addr} {xs : List V} (h : H a = some (.tup xs)) (hp : P (.bl true) H) : CK (rIsi K) [.ref a, .ty "tuple"] H P := c_isi (ty_tup h) (by decide +kernel) hp
theorem c_int_int {i : Int} (hp : P (.bl true) H) : CK (rIsi K) [.int i, .ty "int"] H P := c_isi (.base (.int i)) (by decide +kernel) hp
theorem c_int_bool {i : Int} (hp : P (.bl false) H) : CK (rIsi K) [.int i, .ty "bool"] H P := c_isi (.base (.int i)) (by decide +kernel) hp
theorem c_bl_bool {i : Bool} (hp : P (.bl true) H) : CK (rIsi K) [.bl i, .ty "bool"] H P := c_isi (.base (.bl i)) (by decide +kernel) hp
theorem c_str_str {i : Str} (hp : P (.bl true) H) : CK (rIsi K) [.str i, .ty "str"] H P := c_isi (.base (.str i)) (by decide +kernel) hp
theorem c_non_int (hp : P (.bl false) H) : CK (rIsi K) [.non, .ty "int"] H P := c_isi (.base .non) (by decide +kernel) hp

/-! ### methods of lists -/
theorem m_append {l : Addr} {xs : List V} (h : H l = some (.lst xs)) (hz : xs.length < 100000) (hp : P .non (upd H l (.lst (xs ++ [y])))) : MK rAppend (.ref l) [y] H P := fun H1 e Q k => ⟨l, xs, y, rfl, rfl, e _ _ h, sz_lt hz, k _ _ ⟨_, Ex.updm e, hp⟩⟩
theorem m_reverse {l : Addr} {xs : List V} (h : H l = some (.lst xs)) (hp : P .non (upd H l (.lst xs.reverse))) : MK rReverse (.ref l) [] H P := fun H1 e Q k => ⟨l, xs, rfl, rfl, e _ _ h, k _ _ ⟨_, Ex.updm e, hp⟩⟩
theorem m_clear {l : Addr} {xs : List V} (h : H l = some (.lst xs)) (hp : P .non (upd H l (.lst []))) : MK rClear (.ref l) [] H P := fun H1 e Q k => ⟨l, xs, rfl, rfl, e _ _ h, k _ _ ⟨_, Ex.updm e, hp⟩⟩

/-! ### statements -/
theorem Go.here {s : TS} (h : Go s D σ H) : s D σ H := h H (Ex.refl H)
theorem Go.mono {s : TS} (h : Go s D σ H) (e : Ex H H') : Go s D σ H' := fun H1 a => h H1 (e.trans a)
variable {s s2 w : TS}
/-- a statement ahead of w -/
theorem gs_asg {i : Nat} (h : EvK te σ H fun v Hx => Go w D (σ.set i (some v)) Hx) : Go (tSeq (tAsg te (gName i)) w) D σ H := fun H1 e => h H1 e _ fun v H2 ⟨_, ex, g⟩ => g H2 ex
theorem gs_drop (h : EvK te σ H fun _ Hx => Go w D σ Hx) : Go (tSeq (tDrop te) w) D σ H := fun H1 e => h H1 e _ fun v H2 ⟨_, ex, g⟩ => g H2 ex
theorem gs_if (h : EvTK t σ H fun b Hx => (b = true → Go s { D with nx := w D } σ Hx) ∧ (b = false → Go s2 { D with nx := w D } σ Hx)) : Go (tSeq (tIfS t s s2) w) D σ H := fun H1 e => h H1 e _ fun b H2 ⟨Hx, ex, ht, hf⟩ => by
  cases b with
  | true =>
    rw [if_pos rfl]
    exact ht rfl H2 ex
  | false =>
    rw [if_neg Bool.false_ne_true]
    exact hf rfl H2 ex
theorem gs_when (h : EvTK t σ H fun b Hx => (b = true → Go s { D with nx := w D } σ Hx) ∧ (b = false → Go w D σ Hx)) : Go (tSeq (tIfS t s tNext) w) D σ H := gs_if h
/-- the last statement of a block -/
theorem g1_asg {i : Nat} (h : EvK te σ H fun v Hx => ∀ H1, Ex Hx H1 → D.nx (σ.set i (some v)) H1) : Go (tAsg te (gName i)) D σ H := fun H1 e => h H1 e _ fun v H2 ⟨_, ex, g⟩ => g H2 ex
theorem g1_drop (h : EvK te σ H fun _ Hx => ∀ H1, Ex Hx H1 → D.nx σ H1) : Go (tDrop te) D σ H := fun H1 e => h H1 e _ fun v H2 ⟨_, ex, g⟩ => g H2 ex
theorem g1_ret (h : EvK te σ H (KQ D.rt)) : Go (tRet te) D σ H := fun H1 e => h H1 e _ fun v H2 ⟨_, ex, g⟩ => g H2 ex
theorem g1_if (h : EvTK t σ H fun b Hx => (b = true → Go s D σ Hx) ∧ (b = false → Go s2 D σ Hx)) : Go (tIfS t s s2) D σ H := fun H1 e => h H1 e _ fun b H2 ⟨Hx, ex, ht, hf⟩ => by
  cases b with
  | true =>
    rw [if_pos rfl]
    exact ht rfl H2 ex
  | false =>
    rw [if_neg Bool.false_ne_true]
    exact hf rfl H2 ex
theorem g1_next (h : ∀ H1, Ex H H1 → D.nx σ H1) : Go tNext D σ H := h
/-- the last statement of a block within a block: then w -/
theorem g2_asg {i : Nat} (h : EvK te σ H fun v Hx => Go w D (σ.set i (some v)) Hx) : Go (tAsg te (gName i)) { D with nx := w D } σ H := g1_asg h
theorem g2_drop (h : EvK te σ H fun _ Hx => Go w D σ Hx) : Go (tDrop te) { D with nx := w D } σ H := g1_drop h
theorem g2_next (h : Go w D σ H) : Go tNext { D with nx := w D } σ H := h
/-- what stands behind, shown once -/
theorem gs_cut (R : Go w D σ H) (h : Go w D σ H → Go (tSeq s w) D σ H) : Go (tSeq s w) D σ H := h R
/-- a, b = b, a -/
theorem gs_par {i j : Nat} {tl : TA} (h : EvAK tl σ H fun vs Hx => ∃ v z, vs = [v, z] ∧ Go w D ((σ.set i (some v)).set j (some z)) Hx) : Go (tSeq (tPar i j tl) w) D σ H := fun H1 e => h H1 e _ fun vs H2 ⟨_, ex, v, z, ev, g⟩ => ⟨v, z, ev, g H2 ex⟩
theorem g1_par {i j : Nat} {tl : TA} (h : EvAK tl σ H fun vs Hx => ∃ v z, vs = [v, z] ∧ ∀ H1, Ex Hx H1 → D.nx ((σ.set i (some v)).set j (some z)) H1) : Go (tPar i j tl) D σ H := fun H1 e => h H1 e _ fun vs H2 ⟨_, ex, v, z, ev, g⟩ => ⟨v, z, ev, g H2 ex⟩
theorem g2_par {i j : Nat} {tl : TA} (h : EvAK tl σ H fun vs Hx => ∃ v z, vs = [v, z] ∧ Go w D ((σ.set i (some v)).set j (some z)) Hx) : Go (tPar i j tl) { D with nx := w D } σ H := g1_par h
/-- o[i] = e -/
theorem gs_set (h : EvK te σ H fun v Hv => EvK ta σ Hv fun o Ho => EvK tb σ Ho fun i Hi => ∃ l xs n j, o = .ref l ∧ i = .int n ∧ Hi l = some (.lst xs) ∧ ixN xs.length n = some j ∧ Go w D σ (upd Hi l (.lst (xs.set j v)))) : Go (tSeq (tAsg te (gSub ta tb rSetL)) w) D σ H := fun H1 e =>
  h H1 e _ fun v H2 ⟨_, e2, h2⟩ => h2 H2 e2 _ fun o H3 ⟨_, e3, h3⟩ => h3 H3 e3 _ fun i H4 ⟨Hi, e4, l, xs, n, j, eo, ei, hl, hj, g⟩ => ⟨l, xs, n, j, eo, ei, e4 _ _ hl, hj, g _ (Ex.updm e4)⟩
theorem g1_set (h : EvK te σ H fun v Hv => EvK ta σ Hv fun o Ho => EvK tb σ Ho fun i Hi => ∃ l xs n j, o = .ref l ∧ i = .int n ∧ Hi l = some (.lst xs) ∧ ixN xs.length n = some j ∧ ∀ H1, Ex (upd Hi l (.lst (xs.set j v))) H1 → D.nx σ H1) : Go (tAsg te (gSub ta tb rSetL)) D σ H := fun H1 e =>
  h H1 e _ fun v H2 ⟨_, e2, h2⟩ => h2 H2 e2 _ fun o H3 ⟨_, e3, h3⟩ => h3 H3 e3 _ fun i H4 ⟨Hi, e4, l, xs, n, j, eo, ei, hl, hj, g⟩ => ⟨l, xs, n, j, eo, ei, e4 _ _ hl, hj, g _ (Ex.updm e4)⟩

theorem g2_set (h : EvK te σ H fun v Hv => EvK ta σ Hv fun o Ho => EvK tb σ Ho fun i Hi => ∃ l xs n j, o = .ref l ∧ i = .int n ∧ Hi l = some (.lst xs) ∧ ixN xs.length n = some j ∧ Go w D σ (upd Hi l (.lst (xs.set j v)))) : Go (tAsg te (gSub ta tb rSetL)) { D with nx := w D } σ H := g1_set h

/-! ### loops: a word (Pv) of the turn, the slots and the smallest heap -/
/-- a state that the word allows, the heap grown -/
def Lp (Pv : Nat → L2.St → Hp → Prop) (i : Nat) (σ : L2.St) (H : Hp) : Prop := ∃ Hx, Ex Hx H ∧ Pv i σ Hx
theorem gs_forL {a : Addr} {xs : List V} {j : Nat} (Pv : Nat → L2.St → Hp → Prop) (h : EvK te σ H fun v Hx => v = .ref a ∧ SqL K Hx a xs ∧ Pv 0 σ Hx) (hl : ∀ i σ' H', i ≤ xs.length → Pv i σ' H' → SqL K H' a xs)
    (hs : ∀ i x σ' H', xs[i]? = some x → Pv i σ' H' → Go s { D with nx := Lp Pv (i + 1), ct := Lp Pv (i + 1), bk := w D } (σ'.set j (some x)) H') (hd : ∀ σ' H', Pv xs.length σ' H' → Go w D σ' H') : Go (tSeq (tFor (iList K te) (gName j) s) w) D σ H := fun H1 e =>
  h H1 e _ fun v H2 ⟨Hx, ex, ev, hq, h0⟩ => ⟨a, ev, ⟨xs, ex_l ex hq⟩, for_list (D := { D with nx := w D }) (Lp Pv) ⟨Hx, ex, h0⟩ (fun i σ' H' hi ⟨Hy, ey, p⟩ => ex_l ey (hl i σ' Hy hi p)) (fun i x σ' H' hi ⟨Hy, ey, p⟩ => hs i x σ' Hy hi p H' ey) (fun σ' H' ⟨Hy, ey, p⟩ => hd σ' Hy p H' ey)⟩
/-- over a list that is made on the way -/
theorem gs_forF {j : Nat} (h : EvK te σ H fun v Hx => ∃ (a : Addr) (xs : List V) (Pv : Nat → L2.St → Hp → Prop), v = .ref a ∧ SqL K Hx a xs ∧ Pv 0 σ Hx ∧ (∀ i σ' H', i ≤ xs.length → Pv i σ' H' → SqL K H' a xs) ∧
    (∀ i x σ' H', xs[i]? = some x → Pv i σ' H' → Go s { D with nx := Lp Pv (i + 1), ct := Lp Pv (i + 1), bk := w D } (σ'.set j (some x)) H') ∧ (∀ σ' H', Pv xs.length σ' H' → Go w D σ' H')) : Go (tSeq (tFor (iList K te) (gName j) s) w) D σ H := fun H1 e =>
  h H1 e _ fun v H2 ⟨Hx, ex, a, xs, Pv, ev, hq, h0, hl, hs, hd⟩ => ⟨a, ev, ⟨xs, ex_l ex hq⟩, for_list (D := { D with nx := w D }) (Lp Pv) ⟨Hx, ex, h0⟩ (fun i σ' H' hi ⟨Hy, ey, p⟩ => ex_l ey (hl i σ' Hy hi p)) (fun i x σ' H' hi ⟨Hy, ey, p⟩ => hs i x σ' Hy hi p H' ey) (fun σ' H' ⟨Hy, ey, p⟩ => hd σ' Hy p H' ey)⟩
theorem g1_forL {a : Addr} {xs : List V} {j : Nat} (Pv : Nat → L2.St → Hp → Prop) (h : EvK te σ H fun v Hx => v = .ref a ∧ SqL K Hx a xs ∧ Pv 0 σ Hx) (hl : ∀ i σ' H', i ≤ xs.length → Pv i σ' H' → SqL K H' a xs)
    (hs : ∀ i x σ' H', xs[i]? = some x → Pv i σ' H' → Go s { D with nx := Lp Pv (i + 1), ct := Lp Pv (i + 1), bk := D.nx } (σ'.set j (some x)) H') (hd : ∀ σ' H', Pv xs.length σ' H' → ∀ H1, Ex H' H1 → D.nx σ' H1) : Go (tFor (iList K te) (gName j) s) D σ H := fun H1 e =>
  h H1 e _ fun v H2 ⟨Hx, ex, ev, hq, h0⟩ => ⟨a, ev, ⟨xs, ex_l ex hq⟩, for_list (Lp Pv) ⟨Hx, ex, h0⟩ (fun i σ' H' hi ⟨Hy, ey, p⟩ => ex_l ey (hl i σ' Hy hi p)) (fun i x σ' H' hi ⟨Hy, ey, p⟩ => hs i x σ' Hy hi p H' ey) (fun σ' H' ⟨Hy, ey, p⟩ => hd σ' Hy p H' ey)⟩
theorem gs_forR {n : Int} {tl : TA} {j : Nat} (Pv : Nat → L2.St → Hp → Prop) (h : EvAK tl σ H fun vs Hx => vs = [.int n] ∧ n ≤ 100000 ∧ 0 ≤ n ∧ Pv 0 σ Hx)
    (hs : ∀ (i : Nat) σ' H', (i : Int) < n → Pv i σ' H' → Go s { D with nx := Lp Pv (i + 1), ct := Lp Pv (i + 1), bk := w D } (σ'.set j (some (.int (i : Int)))) H') (hd : ∀ σ' H', Pv n.toNat σ' H' → Go w D σ' H') : Go (tSeq (tFor (iRng1 tl) (gName j) s) w) D σ H := fun H1 e =>
  h H1 e _ fun vs H2 ⟨Hx, ex, ev, hn, hn0, h0⟩ => ⟨n, ev, by omega, by omega, for_range (D := { D with nx := w D }) (lo := 0) (n := n.toNat) (Lp Pv) ⟨Hx, ex, h0⟩ (fun i σ' H' hi ⟨Hy, ey, p⟩ => by
    have e0 : (0 : Int) + (i : Int) = (i : Int) := Int.zero_add _
    show s _ (σ'.set j (some (.int ((0 : Int) + (i : Int))))) H'
    rw [e0]
    exact hs i σ' Hy (by omega) p H' ey) (fun σ' H' ⟨Hy, ey, p⟩ => hd σ' Hy p H' ey)⟩
theorem gs_forR2 {lo n : Int} {tl : TA} {j : Nat} (Pv : Nat → L2.St → Hp → Prop) (h : EvAK tl σ H fun vs Hx => vs = [.int lo, .int n] ∧ (0 ≤ lo ∧ lo ≤ 100000 ∧ -100000 ≤ n ∧ n ≤ 100000) ∧ Pv 0 σ Hx)
    (hs : ∀ (i : Nat) σ' H', lo + (i : Int) < n → Pv i σ' H' → Go s { D with nx := Lp Pv (i + 1), ct := Lp Pv (i + 1), bk := w D } (σ'.set j (some (.int (lo + (i : Int))))) H') (hd : ∀ σ' H', Pv (n - lo).toNat σ' H' → Go w D σ' H') : Go (tSeq (tFor (iRng2 tl) (gName j) s) w) D σ H := fun H1 e =>
  h H1 e _ fun vs H2 ⟨Hx, ex, ev, hn, h0⟩ => ⟨lo, n, ev, ⟨by omega, by omega, by omega, by omega⟩, for_range (D := { D with nx := w D }) (lo := lo) (n := (n - lo).toNat) (Lp Pv) ⟨Hx, ex, h0⟩ (fun i σ' H' hi ⟨Hy, ey, p⟩ => hs i σ' Hy (by omega) p H' ey) (fun σ' H' ⟨Hy, ey, p⟩ => hd σ' Hy p H' ey)⟩

/-! ### comprehensions: [e for x in range(n)], [e for x in xs]; the elements v i -/
/-- the words of an element: at any heap that has grown, the value alone -/
theorem k_lcR {n : Int} {tl : TA} {j : Nat} {vs : List Nat} (f : Nat → V) (h : EvAK tl σ H fun ws Hx => ws = [.int n] ∧ n ≤ 40000 ∧ 0 ≤ n ∧ (∀ x, wipe ((wipe σ vs).set j (some x)) vs = wipe σ vs) ∧ (∀ (i : Nat) Hz, (i : Int) < n → Ex Hx Hz → EvK te ((wipe σ vs).set j (some (.int (i : Int)))) Hz fun v Hy => v = f i ∧ Hy = Hz) ∧ ∀ p, Hx p = none → P (.ref p) (upd Hx p (.lst ((List.range n.toNat).map f)))) :
    EvK (tLc (iRng1 tl) (gName j) tYes te vs) σ H P := fun H1 e Q k =>
  h H1 e _ fun ws H2 ⟨Hx, ex, ev, hn, hn0, hw, hs, hd⟩ => ⟨n, ev, by omega, by omega, fun p np => by
    have npx : Hx p = none := fresh_back ex np
    refine lc_range (lo := 0) (n := n.toNat) (fun i H' => Ex (upd Hx p (.lst ((List.range i).map f))) H') (Ex.updm ex) (fun i H' hi p' => ?_) (fun H' p' => k _ _ ⟨_, p', hd p npx⟩)
    have e0 : (0 : Int) + (i : Int) = (i : Int) := Int.zero_add _
    show wipe ((wipe σ vs).set j (some (.int ((0 : Int) + (i : Int))))) vs = wipe σ vs ∧ te ((wipe σ vs).set j (some (.int ((0 : Int) + (i : Int))))) H' fun y H4 => ∃ acc, H4 p = some (.lst acc) ∧ acc.length < sizeLine ∧ Ex (upd Hx p (.lst ((List.range (i + 1)).map f))) (upd H4 p (.lst (acc ++ [y])))
    rw [e0]
    refine ⟨hw _, hs i (upd Hx p (.lst ((List.range i).map f))) (by omega) (Ex.new npx) H' p' _ ?_⟩
    rintro y H4 ⟨Hy, ey, rfl, rfl⟩
    refine ⟨_, ey p _ upd_same, sz_lt (by rw [List.length_map, List.length_range]; omega), ?_⟩
    have e5 : (List.range (i + 1)).map f = (List.range i).map f ++ [f i] := by rw [List.range_succ, List.map_append]; rfl
    rw [e5]
    exact Ex.updm (fun a u q => by
      by_cases ha : a = p
      · subst ha
        rw [npx] at q
        cases q
      · exact ey a u (by rw [upd_ne ha]; exact q))⟩
theorem k_lcL {a : Addr} {xs : List V} {j : Nat} {vs : List Nat} {tl : TE} (f : Nat → V → V) (h : EvK tl σ H fun w Hx => w = .ref a ∧ SqL K Hx a xs ∧ xs.length ≤ 40000 ∧ (∀ x, wipe ((wipe σ vs).set j (some x)) vs = wipe σ vs) ∧ (∀ (i : Nat) x Hz, xs[i]? = some x → Ex Hx Hz → EvK te ((wipe σ vs).set j (some x)) Hz fun v Hy => v = f i x ∧ Hy = Hz) ∧ ∀ p, Hx p = none → P (.ref p) (upd Hx p (.lst (xs.mapIdx f)))) :
    EvK (tLc (iList K tl) (gName j) tYes te vs) σ H P := fun H1 e Q k =>
  h H1 e _ fun w H2 ⟨Hx, ex, ev, hq, hn, hw, hs, hd⟩ => ⟨a, ev, ⟨xs, ex_l ex hq⟩, fun p np => by
    have npx : Hx p = none := fresh_back ex np
    refine lc_list (xs := xs) (fun i H' => Ex (upd Hx p (.lst ((xs.take i).mapIdx f))) H') (Ex.updm ex) (fun i H' _ p' => ex_l p' (ex_l (Ex.new npx) hq)) (fun i x H' hi p' => ?_) (fun H' p' => k _ _ ⟨_, p', by rw [List.take_length]; exact hd p npx⟩)
    show wipe ((wipe σ vs).set j (some x)) vs = wipe σ vs ∧ te ((wipe σ vs).set j (some x)) H' fun y H4 => ∃ acc, H4 p = some (.lst acc) ∧ acc.length < sizeLine ∧ Ex (upd Hx p (.lst ((xs.take (i + 1)).mapIdx f))) (upd H4 p (.lst (acc ++ [y])))
    have hlt : i < xs.length := (List.getElem?_eq_some_iff.mp hi).1
    refine ⟨hw _, hs i x (upd Hx p (.lst ((xs.take i).mapIdx f))) hi (Ex.new npx) H' p' _ ?_⟩
    rintro y H4 ⟨Hy, ey, rfl, rfl⟩
    refine ⟨_, ey p _ upd_same, sz_lt (by rw [List.length_mapIdx, List.length_take]; omega), ?_⟩
    have e5 : (xs.take (i + 1)).mapIdx f = (xs.take i).mapIdx f ++ [f i x] := by
      rw [List.take_succ, hi, List.mapIdx_append, List.length_take, Nat.min_eq_left (Nat.le_of_lt hlt)]
      simp
    rw [e5]
    exact Ex.updm (fun a u q => by
      by_cases ha : a = p
      · subst ha
        rw [npx] at q
        cases q
      · exact ey a u (by rw [upd_ne ha]; exact q))⟩

/-! ### targets -/
def GK (g : TG) (v : V) (σ : L2.St) (H : Hp) (R : L2.St → Hp → Prop) : Prop := ∀ H1, Ex H H1 → ∀ Q : L2.St → Hp → Prop, (∀ σ' H2, (∃ Hx, Ex Hx H2 ∧ R σ' Hx) → Q σ' H2) → g v σ H1 Q
theorem gk_name {i : Nat} {R : L2.St → Hp → Prop} (h : R (σ.set i (some v)) H) : GK (gName i) v σ H R := fun H1 e Q k => k _ _ ⟨H, e, h⟩
theorem gk_tup2 {a : Addr} {g1 g2 : TG} {R : L2.St → Hp → Prop} (hq : SqT K H a [x, y]) (h : GK g1 x σ H fun σ1 H1 => GK g2 y σ1 H1 R) : GK (gTup K 2 (gCons g1 (gCons g2 gNil))) (.ref a) σ H R := fun H1 e Q k =>
  ⟨a, [x, y], rfl, ex_t e hq, rfl, x, [y], rfl, h H1 e _ fun σ1 H2 ⟨_, ex, h2⟩ => ⟨y, [], rfl, h2 H2 ex _ fun σ2 H3 z => ⟨rfl, k σ2 H3 z⟩⟩⟩
theorem gk_tup3 {a : Addr} {g1 g2 g3 : TG} {R : L2.St → Hp → Prop} (hq : SqT K H a [x, y, z]) (h : GK g1 x σ H fun σ1 H1 => GK g2 y σ1 H1 fun σ2 H2 => GK g3 z σ2 H2 R) : GK (gTup K 3 (gCons g1 (gCons g2 (gCons g3 gNil)))) (.ref a) σ H R := fun H1 e Q k =>
  ⟨a, [x, y, z], rfl, ex_t e hq, rfl, x, [y, z], rfl, h H1 e _ fun σ1 H2 ⟨_, ex, h2⟩ => ⟨y, [z], rfl, h2 H2 ex _ fun σ2 H3 ⟨_, ey, h3⟩ => ⟨z, [], rfl, h3 H3 ey _ fun σ3 H4 u => ⟨rfl, k σ3 H4 u⟩⟩⟩⟩
theorem gs_asgG {g : TG} (h : EvK te σ H fun v Hx => GK g v σ Hx fun σ' Hy => Go w D σ' Hy) : Go (tSeq (tAsg te g) w) D σ H := fun H1 e => h H1 e _ fun v H2 ⟨_, ex, gk⟩ => gk H2 ex _ fun σ' H3 ⟨_, ey, go⟩ => go H3 ey
theorem gs_forG {g : TG} (h : EvK te σ H fun v Hx => ∃ (a : Addr) (xs : List V) (Pv : Nat → L2.St → Hp → Prop), v = .ref a ∧ SqL K Hx a xs ∧ Pv 0 σ Hx ∧ (∀ i σ' H', i ≤ xs.length → Pv i σ' H' → SqL K H' a xs) ∧
    (∀ i x σ' H', xs[i]? = some x → Pv i σ' H' → GK g x σ' H' fun σ2 H2 => Go s { D with nx := Lp Pv (i + 1), ct := Lp Pv (i + 1), bk := w D } σ2 H2) ∧ (∀ σ' H', Pv xs.length σ' H' → Go w D σ' H')) : Go (tSeq (tFor (iList K te) g s) w) D σ H := fun H1 e =>
  h H1 e _ fun v H2 ⟨Hx, ex, a, xs, Pv, ev, hq, h0, hl, hs, hd⟩ => ⟨a, ev, ⟨xs, ex_l ex hq⟩, for_list (D := { D with nx := w D }) (Lp Pv) ⟨Hx, ex, h0⟩ (fun i σ' H' hi ⟨Hy, ey, p⟩ => ex_l ey (hl i σ' Hy hi p)) (fun i x σ' H' hi ⟨Hy, ey, p⟩ => hs i x σ' Hy hi p H' ey _ fun σ2 H2 ⟨_, ez, go⟩ => go H2 ez) (fun σ' H' ⟨Hy, ey, p⟩ => hd σ' Hy p H' ey)⟩
/-- for x, y in zip(xs, ys): two lists of one length -/
theorem gs_forZ {g1 g2 : TG} {tl : TA} (h : EvAK tl σ H fun vs Hx => ∃ (a b : Addr) (xs ys : List V) (Pv : Nat → L2.St → Hp → Prop), vs = [.ref a, .ref b] ∧ SqL K Hx a xs ∧ SqL K Hx b ys ∧ xs.length = ys.length ∧ Pv 0 σ Hx ∧ (∀ i σ' H', Pv i σ' H' → SqL K H' a xs ∧ SqL K H' b ys) ∧
    (∀ i x y σ' H', xs[i]? = some x → ys[i]? = some y → Pv i σ' H' → GK g1 x σ' H' fun σ1 H1 => GK g2 y σ1 H1 fun σ2 H2 => Go s { D with nx := Lp Pv (i + 1), ct := Lp Pv (i + 1), bk := w D } σ2 H2) ∧ (∀ σ' H', Pv xs.length σ' H' → Go w D σ' H')) :
    Go (tSeq (tFor (iZip K tl) (gTup K 2 (gCons g1 (gCons g2 gNil))) s) w) D σ H := fun H1 e =>
  h H1 e _ fun vs H2 ⟨Hx, ex, a, b, xs, ys, Pv, ev, hx, hy, hl, h0, hq, hs, hd⟩ => ⟨a, b, xs, ys, ev, ex_l ex hx, ex_l ex hy, RZ.for_zipL (D := { D with nx := w D }) hl (Lp Pv) ⟨Hx, ex, h0⟩ (fun i σ' H' ⟨Hy, ey, p⟩ => ⟨ex_l ey (hq i σ' Hy p).1, ex_l ey (hq i σ' Hy p).2⟩)
    (fun i x y T σ' H' gx gy ⟨Hy, ey, p⟩ nT => gk_tup2 (H := upd H' T (.tup [x, y])) (st_of upd_same) (fun H3 e3 Q k => hs i x y σ' Hy gx gy p H3 ((ey.trans (Ex.new nT)).trans e3) Q k) _ (Ex.refl _) _ fun σ2 H2 ⟨_, ez, go⟩ => go H2 ez) (fun σ' H' ⟨Hy, ey, p⟩ => hd σ' Hy p H' ey)⟩
/-- divmod -/
theorem c_divmod {i j : Int} (hc : CDiv i j) (hp : ∀ p, H p = none → P (.ref p) (upd H p (.tup [.int (i / j), .int (i % j)]))) : CK (fun xs H Q => ∃ i j, xs = [.int i, .int j] ∧ CDiv i j ∧ ∀ p, H p = none → Q (.ref p) (upd H p (.tup [.int (i / j), .int (i % j)]))) [.int i, .int j] H P := fun H1 e Q k => ⟨i, j, rfl, hc, fun p np => k _ _ ⟨_, Ex.updm e, hp p (fresh_back e np)⟩⟩
/-- a statement whose ways meet: what holds behind it, told once -/
def Md (Pc : L2.St → Hp → Prop) (σ : L2.St) (H : Hp) : Prop := ∃ Hx, Ex Hx H ∧ Pc σ Hx
theorem gs_mid (Pc : L2.St → Hp → Prop) (h : Go s { D with nx := Md Pc } σ H) (R : ∀ σ' H', Pc σ' H' → Go w D σ' H') : Go (Evl.tCut s w) D σ H := fun H1 e => ⟨Md Pc, h H1 e, fun σ' H' ⟨Hx, ex, p⟩ => R σ' Hx p H' ex⟩
theorem g1_forF {j : Nat} (h : EvK te σ H fun v Hx => ∃ (a : Addr) (xs : List V) (Pv : Nat → L2.St → Hp → Prop), v = .ref a ∧ SqL K Hx a xs ∧ Pv 0 σ Hx ∧ (∀ i σ' H', i ≤ xs.length → Pv i σ' H' → SqL K H' a xs) ∧
    (∀ i x σ' H', xs[i]? = some x → Pv i σ' H' → Go s { D with nx := Lp Pv (i + 1), ct := Lp Pv (i + 1), bk := D.nx } (σ'.set j (some x)) H') ∧ (∀ σ' H', Pv xs.length σ' H' → ∀ H1, Ex H' H1 → D.nx σ' H1)) : Go (tFor (iList K te) (gName j) s) D σ H := fun H1 e =>
  h H1 e _ fun v H2 ⟨Hx, ex, a, xs, Pv, ev, hq, h0, hl, hs, hd⟩ => ⟨a, ev, ⟨xs, ex_l ex hq⟩, for_list (Lp Pv) ⟨Hx, ex, h0⟩ (fun i σ' H' hi ⟨Hy, ey, p⟩ => ex_l ey (hl i σ' Hy hi p)) (fun i x σ' H' hi ⟨Hy, ey, p⟩ => hs i x σ' Hy hi p H' ey) (fun σ' H' ⟨Hy, ey, p⟩ => hd σ' Hy p H' ey)⟩

/-! ### what may raise -/
/-- a call that may raise, in a def that lets it out (E), in a try (by the slots) -/
def tCallX (sp : Sp) (E : XK) (tl : TA) : TE := tCall sp [] E tl
theorem peX {X : Cx} {sp : Sp} {E : XK} {tl : TA} {e : Expr} (h : PE X e (tCall sp [] E tl)) : PE X e (tCallX sp E tl) := h
theorem k_callX {sp : Sp} {E : XK} {tl : TA} (h : EvAK tl σ H fun vs Hx => Kc (fun H Q => sp vs H Q E) Hx P) : EvK (tCallX sp E tl) σ H P := fun H1 e Q k => h H1 e _ fun vs H2 ⟨Hx, ex, h2⟩ => by
  rw [List.append_nil]
  exact h2 H2 ex Q k
theorem k_callS {sp : Sp} {E : L2.St → XK} {tl : TA} (h : EvAK tl σ H fun vs Hx => Kc (fun H Q => sp vs H Q (E σ)) Hx P) : EvK (tCallS sp E tl) σ H P := kc_bind (f := fun vs H1 Q => sp vs H1 Q (E σ)) h
/-- what is wished of an exception at a heap that may have grown -/
def KE (E : XK) (c : Value) (d : Option Addr) (Hx : Hp) : Prop := ∀ H1, Ex Hx H1 → E c d H1
theorem KE.up {E : XK} {c : Value} {d : Option Addr} (h : KE E c d H) (e : Ex H H') : KE E c d H' := fun H1 a => h H1 (e.trans a)
/-- except c as n (slot i), the exception's class that clause's -/
theorem ke_as {c : Value} {i : Nat} {ts : Addr → Value → Option Addr → TS} {Wout : WX} {cls : Value} {d : Option Addr} (he : PySem.W.exmOne K cls c = some true)
    (h : ∀ a, H a = none → Go (ts a cls d) { nx := fun σ' H' => D.nx (σ'.set i none) H', rt := D.rt, bk := fun σ' H' => D.bk (σ'.set i none) H', ct := fun σ' H' => D.ct (σ'.set i none) H' } (σ.set i (some (.ref a))) H) : KE (WE (wAs K c i ts Wout D) σ) cls d H := fun H1 e =>
  ⟨true, he, fun _ a na => h a (fresh_back e na) H1 e, fun q => Bool.noConfusion q⟩
theorem ke_only {c : Value} {ts : Addr → Value → Option Addr → TS} {Wout : WX} {cls : Value} {d : Option Addr} (he : PySem.W.exmOne K cls c = some true)
    (h : ∀ a, H a = none → Go (ts a cls d) D σ H) : KE (WE (wOnly K c ts Wout D) σ) cls d H := fun H1 e => ⟨true, he, fun _ a na => h a (fresh_back e na) H1 e, fun q => Bool.noConfusion q⟩
/-- a suite that is only asked for exceptions of the class at C, made without a dict of their own -/
def tsD (C : Addr) (ts : Addr → TS) : Addr → Value → Option Addr → TS := fun a cls d Dn σ H => cls = .ref C ∧ d = none ∧ ts a Dn σ H
theorem suiteD {X : Cx} {C : Addr} {sts : List Stmt} {ts : Addr → TS} (h : ∀ (a : Addr) (oe : Obj) (pn : List (Addr × Obj)), Zc (.ref C) none oe → (∃ vs, oe.data = .fields vs) → PSs (X.suite a ((a, oe) :: pn)) sts (ts a)) :
    ∀ (a : Addr) (oe : Obj) (cls : Value) (d : Option Addr) (pn : List (Addr × Obj)), Zc cls d oe → (∃ vs, oe.data = .fields vs) → PSs (X.suite a ((a, oe) :: pn)) sts (tsD C ts a cls d) := fun a oe cls d pn hz hf =>
  ⟨fun pins s σ H Dn I hh => by
    obtain ⟨e1, e2, h2⟩ := hh
    subst e1 e2
    exact (h a oe pn hz hf).run pins s σ H Dn I h2⟩
theorem g_tsD {C a : Addr} {ts : Addr → TS} (h : Go (ts a) D σ H) : Go (tsD C ts a (.ref C) none) D σ H := fun H1 e => ⟨rfl, rfl, h H1 e⟩
theorem bIsE {X : Cx} {a C : Addr} {oe : Obj} {pn : List (Addr × Obj)} (CE : ExcC K C) (hz : Zc (.ref C) none oe) (hf : ∃ vs, oe.data = .fields vs) (h : X.K = K := by rfl) : CallR (X.suite a ((a, oe) :: pn)) (.builtin "isinstance") (rIsE K C a) := by
  subst h
  exact call_isE CE hz hf
theorem c_isE {C a D0 : Addr} {b : Bool} (hk : PySem.W.kitOne K (.ref C) (.ref D0) = some b) (hp : P (.bl b) H) : CK (rIsE K C a) [.ref a, .ref D0] H P := fun H1 e Q k => ⟨.ref D0, .ref D0, b, rfl, fun u r => r, hk, k _ _ ⟨H, e, hp⟩⟩
theorem c_isET {C a : Addr} {n : String} {b : Bool} (hk : PySem.W.kitOne K (.ref C) (.type n) = some b) (hp : P (.bl b) H) : CK (rIsE K C a) [.ref a, .ty n] H P := fun H1 e Q k => ⟨.ty n, .type n, b, rfl, fun u r => r, hk, k _ _ ⟨H, e, hp⟩⟩
/-- xs.insert(i, y), xs.pop(i), 0 ≤ i -/
theorem m_insert {l : Addr} {xs : List V} {j : Nat} (h : H l = some (.lst xs)) (hz : xs.length < 100000) (hj : j ≤ 100000) (hp : P .non (upd H l (.lst (xs.take j ++ [y] ++ xs.drop j)))) : MK (fun x vs H Q => ∃ (l : Addr) (xs : List V) (i : Int) (y : V), x = .ref l ∧ vs = [.int i, y] ∧ H l = some (.lst xs) ∧ xs.length < sizeLine ∧ 0 ≤ i ∧ i < 2 ^ 63 ∧ Q .non (upd H l (.lst (xs.take i.toNat ++ [y] ++ xs.drop i.toNat)))) (.ref l) [.int (j : Int), y] H P := fun H1 e Q k =>
  ⟨l, xs, (j : Int), y, rfl, rfl, e _ _ h, sz_lt hz, by omega, by omega, by
    rw [Int.toNat_natCast]
    exact k _ _ ⟨_, Ex.updm e, hp⟩⟩
theorem m_popAt {l : Addr} {xs : List V} {j : Nat} (h : H l = some (.lst xs)) (hz : xs.length < 100000) (hj : xs[j]? = some y) (hp : P y (upd H l (.lst (xs.eraseIdx j)))) : MK rPopAt (.ref l) [.int (j : Int)] H P := fun H1 e Q k => by
  have hlt := (List.getElem?_eq_some_iff.mp hj).1
  exact ⟨l, xs, (j : Int), j, y, rfl, rfl, e _ _ h, by omega, by omega, seqIndex_of (by omega) (by omega), hj, k _ _ ⟨_, Ex.updm e, hp⟩⟩
end
end Px

set_option Elab.async false
set_option linter.all false
/-! Pm: plain mathematics: rows in order, what the fullest hold together. -/
namespace Pm
/-- a row in order, the fullest first -/
def sd (ns : List Int) : List Int := ns.mergeSort fun a b => decide (b ≤ a)
theorem sd_perm (ns : List Int) : (sd ns).Perm ns := List.mergeSort_perm ns _
theorem sd_sorted (ns : List Int) : (sd ns).Pairwise (· ≥ ·) := by
  have h := List.pairwise_mergeSort (le := fun a b : Int => decide (b ≤ a)) (fun a b c h1 h2 => by
    have h1' := of_decide_eq_true h1
    have h2' := of_decide_eq_true h2
    exact decide_eq_true (by omega)) (fun a b => by
    by_cases h : b ≤ a
    · rw [decide_eq_true h]; rfl
    · have h2 : a ≤ b := by omega
      rw [decide_eq_true h2, Bool.or_true]) ns
  exact h.imp fun h => of_decide_eq_true h
theorem sd_uniq {l ns : List Int} (p : l.Perm ns) (s : l.Pairwise (· ≥ ·)) : l = sd ns :=
  List.Perm.eq_of_pairwise (le := (· ≥ ·)) (fun a b _ _ h1 h2 => by omega) s (sd_sorted ns) (p.trans (sd_perm ns).symm)
theorem sd_of_perm {a b : List Int} (p : a.Perm b) : sd a = sd b := sd_uniq ((sd_perm a).trans p) (sd_sorted a)
theorem sd_len (ns : List Int) : (sd ns).length = ns.length := (sd_perm ns).length_eq
theorem sd_reverse (ns : List Int) : sd ns.reverse = sd ns := sd_of_perm (List.reverse_perm ns)
theorem perm_sum {a b : List Int} (p : a.Perm b) : a.sum = b.sum := by
  induction p with
  | nil => rfl
  | cons x _ ih => rw [List.sum_cons, List.sum_cons, ih]
  | swap x y l => rw [List.sum_cons, List.sum_cons, List.sum_cons, List.sum_cons]; omega
  | trans _ _ h1 h2 => exact h1.trans h2
/-- the sums of the first k, for each k -/
def psums (l : List Int) : List Int := (List.range (l.length + 1)).map fun k => (l.take k).sum
def tops (ns : List Int) : List Int := psums (sd ns)
theorem psums_len (l : List Int) : (psums l).length = l.length + 1 := by unfold psums; rw [List.length_map, List.length_range]
theorem tops_len (l : List Int) : (tops l).length = l.length + 1 := by unfold tops; rw [psums_len, sd_len]
theorem take_more {α : Type} {l : List α} {i : Nat} {x : α} (h : l[i]? = some x) : l.take (i + 1) = l.take i ++ [x] := by
  rw [List.take_succ, h]; rfl
theorem sum_take {l : List Int} {i : Nat} {x : Int} (h : l[i]? = some x) : (l.take (i + 1)).sum = (l.take i).sum + x := by
  rw [take_more h, List.sum_append, List.sum_cons, List.sum_nil]; omega
theorem psums_get {l : List Int} {k : Nat} (h : k ≤ l.length) : (psums l)[k]? = some (l.take k).sum := by
  unfold psums
  rw [List.getElem?_map, List.getElem?_range (by omega)]
  rfl
theorem map_at {ns : List Int} {i : Nat} {x : L2.V} (h : (ns.map L2.V.int)[i]? = some x) : ∃ z, ns[i]? = some z ∧ x = L2.V.int z := by
  rw [List.getElem?_map] at h
  cases e : ns[i]? with
  | none => rw [e] at h; cases h
  | some z => rw [e] at h; exact ⟨z, rfl, (Option.some.inj h).symm⟩
theorem atI_map {ns : List Int} {k : Nat} {z : Int} (h : ns[k]? = some z) : L2.atI (ns.map L2.V.int) (k : Int) = some (L2.V.int z) := L2.atI_nat (by rw [List.getElem?_map, h]; rfl)
theorem range_getD {α : Type} (l : List Int) (f : Int → α) : (List.range l.length).map (fun i => f (l.getD i 0)) = l.map f := by
  apply List.ext_getElem
  · rw [List.length_map, List.length_range, List.length_map]
  · intro i h1 h2
    rw [List.length_map] at h2
    rw [List.getElem_map, List.getElem_map, List.getElem_range, List.getD_eq_getElem?_getD, List.getElem?_eq_getElem h2]
    rfl
open L2 Evl Px in
/-- sorted(xs, reverse=True) -/
theorem c_sortedRev {K : PySem.W.Frag} {H : Hp} {P : V → Hp → Prop} {a : PySem.Addr} {ns : List Int} (h : SqL K H a (ns.map V.int)) (hp : ∀ p, H p = none → P (.ref p) (upd H p (.lst ((sd ns).map V.int)))) : Kc (rSortedKw K true [.bl true] [.ref a] [.bl true]) H P := fun H1 e Q k =>
  ⟨a, ns, rfl, rfl, ex_l e h, fun ns' p hp' ho np => by
    have e2 : ns' = sd ns := sd_uniq hp' ho
    subst e2
    exact k _ _ ⟨_, Ex.updm e, hp p (fresh_back e np)⟩⟩

theorem atI_neg {α : Type} {l : List α} (h : 0 < l.length) : L2.atI l (-1) = l[l.length - 1]? := by
  unfold L2.atI L2.ixN
  rw [if_neg (by omega), if_pos (by omega)]
  show l[(-1 + (l.length : Int)).toNat]? = _
  congr 1
  omega
theorem atI_last {l : List Int} (h : 0 < l.length) : L2.atI (l.map L2.V.int) (-1) = some (L2.V.int (l.getD (l.length - 1) 0)) := by
  rw [atI_neg (by rw [List.length_map]; exact h), List.length_map, List.getElem?_map, List.getD_eq_getElem?_getD, List.getElem?_eq_getElem (by omega)]
  rfl

/-! ### sums -/
theorem rsum_succ (f : Nat → Int) (k : Nat) : ((List.range (k + 1)).map f).sum = ((List.range k).map f).sum + f k := by
  rw [List.range_succ, List.map_append, List.sum_append]
  show _ + (f k + 0) = _
  omega
theorem sum_ge {x : Int} : ∀ {l : List Int}, (∀ y ∈ l, x ≤ y) → (l.length : Int) * x ≤ l.sum
  | [], _ => by simp
  | a :: l, h => by
    have h1 := sum_ge (x := x) (l := l) fun y hy => h y (List.mem_cons_of_mem _ hy)
    have h2 := h a List.mem_cons_self
    rw [List.length_cons, List.sum_cons]
    have e : ((l.length + 1 : Nat) : Int) * x = (l.length : Int) * x + x := by
      rw [Int.natCast_add, Int.add_mul]
      show _ + 1 * x = _
      rw [Int.one_mul]
    omega
theorem sum_le {x : Int} : ∀ {l : List Int}, (∀ y ∈ l, y ≤ x) → l.sum ≤ (l.length : Int) * x
  | [], _ => by simp
  | a :: l, h => by
    have h1 := sum_le (x := x) (l := l) fun y hy => h y (List.mem_cons_of_mem _ hy)
    have h2 := h a List.mem_cons_self
    rw [List.length_cons, List.sum_cons]
    have e : ((l.length + 1 : Nat) : Int) * x = (l.length : Int) * x + x := by
      rw [Int.natCast_add, Int.add_mul]
      show _ + 1 * x = _
      rw [Int.one_mul]
    omega
theorem abs_sum {b : Nat} : ∀ {l : List Int}, (∀ y ∈ l, y.natAbs < b) → l.sum.natAbs ≤ l.length * b
  | [], _ => by simp
  | a :: l, h => by
    have h1 := abs_sum (b := b) (l := l) fun y hy => h y (List.mem_cons_of_mem _ hy)
    have h2 := h a List.mem_cons_self
    rw [List.length_cons, List.sum_cons, Nat.add_mul]
    omega
theorem sum_bd {b : Nat} {l : List Int} (h : ∀ y ∈ l, Px.Bd b y) (hl : l.length ≤ 100) : Px.Bd (b + 7) l.sum := by
  have h1 := abs_sum (b := 2 ^ b) h
  have h2 : l.length * 2 ^ b ≤ 100 * 2 ^ b := Nat.mul_le_mul_right _ hl
  unfold Px.Bd
  rw [Nat.pow_add]
  have h3 : 0 < 2 ^ b := Nat.pow_pos (by decide)
  omega
/-- the sum of the squares -/
def sq (l : List Int) : Int := (l.map fun x => x * x).sum
theorem sq_take {l : List Int} {i : Nat} {x : Int} (h : l[i]? = some x) : sq (l.take (i + 1)) = sq (l.take i) + x * x := by
  unfold sq
  rw [take_more h, List.map_append, List.sum_append]
  show _ + (x * x + 0) = _
  omega
theorem sq_bd {b : Nat} {l : List Int} (h : ∀ y ∈ l, Px.Bd b y) (hl : l.length ≤ 100) : Px.Bd (b + b + 7) (sq l) := sum_bd (fun y hy => by
  obtain ⟨x, hx, rfl⟩ := List.mem_map.mp hy
  exact (h x hx).mul (h x hx)) (by rw [List.length_map]; exact hl)
def spread (l : List Int) : Int := (l.length : Int) * sq l - l.sum * l.sum
theorem sq_perm {a b : List Int} (p : a.Perm b) : sq a = sq b := perm_sum (p.map _)
theorem spread_perm {a b : List Int} (p : a.Perm b) : spread a = spread b := by
  unfold spread
  rw [sq_perm p, perm_sum p, p.length_eq]
/-- the squared differences of x to each of l -/
def dsq (x : Int) (l : List Int) : Int := (l.map fun y => (x - y) * (x - y)).sum
theorem dsq_take {x : Int} {l : List Int} {i : Nat} {y : Int} (h : l[i]? = some y) : dsq x (l.take (i + 1)) = dsq x (l.take i) + (x - y) * (x - y) := by
  unfold dsq
  rw [take_more h, List.map_append, List.sum_append]
  show _ + ((x - y) * (x - y) + 0) = _
  omega
theorem dsq_eq (x : Int) : ∀ l : List Int, dsq x l = (l.length : Int) * (x * x) - 2 * x * l.sum + sq l
  | [] => by simp [dsq, sq]
  | y :: l => by
    have ih := dsq_eq x l
    have e1 : dsq x (y :: l) = (x - y) * (x - y) + dsq x l := by unfold dsq; rw [List.map_cons, List.sum_cons]
    have e2 : sq (y :: l) = y * y + sq l := by unfold sq; rw [List.map_cons, List.sum_cons]
    rw [e1, e2, ih, List.sum_cons, List.length_cons, Int.natCast_add]
    generalize l.sum = S
    generalize sq l = q
    generalize (l.length : Int) = n
    show _ = (n + 1) * (x * x) - _ + _
    grind
/-- all pairs, place by place -/
def pairs (l : List Int) : Nat → Int
  | 0 => 0
  | k + 1 => pairs l k + dsq (l.getD k 0) (l.take k)
theorem pairs_eq (l : List Int) : ∀ k, k ≤ l.length → pairs l k = (k : Int) * sq (l.take k) - (l.take k).sum * (l.take k).sum
  | 0, _ => by simp [pairs]
  | k + 1, h => by
    have ih := pairs_eq l k (by omega)
    have hx : l[k]? = some (l.getD k 0) := by
      rw [List.getD_eq_getElem?_getD, List.getElem?_eq_getElem (by omega)]
      rfl
    show pairs l k + dsq (l.getD k 0) (l.take k) = _
    rw [ih, dsq_eq, sq_take hx, sum_take hx, List.length_take, Nat.min_eq_left (by omega), Int.natCast_add]
    generalize (l.take k).sum = S
    generalize sq (l.take k) = q
    generalize l.getD k 0 = x
    generalize (k : Int) = n
    show _ = (n + 1) * _ - _
    grind
theorem pairs_all (l : List Int) : pairs l l.length = spread l := by
  rw [pairs_eq l _ (Nat.le_refl _), List.take_length]
  rfl
theorem getD_at {l : List Int} {i : Nat} (h : i < l.length) : l[i]? = some (l.getD i 0) := by
  rw [List.getD_eq_getElem?_getD, List.getElem?_eq_getElem h]
  rfl

/-! ### the level row -/
def lv (n : Nat) (s : Int) (k : Nat) : Int := s / (n : Int) + if (k : Int) < s % (n : Int) then 1 else 0
def level (n : Nat) (s : Int) : List Int := (List.range n).map (lv n s)
theorem level_len (n : Nat) (s : Int) : (level n s).length = n := by unfold level; rw [List.length_map, List.length_range]
theorem lv_sum {n : Nat} {s : Int} (h : 0 ≤ s % (n : Int)) : ∀ k : Nat, ((List.range k).map (lv n s)).sum = (k : Int) * (s / (n : Int)) + min (k : Int) (s % (n : Int))
  | 0 => by simp; omega
  | k + 1 => by
    rw [rsum_succ, lv_sum h k]
    unfold lv
    have e : ((k + 1 : Nat) : Int) * (s / (n : Int)) = (k : Int) * (s / (n : Int)) + s / (n : Int) := by
      rw [Int.natCast_add, Int.add_mul]
      show _ + 1 * _ = _
      rw [Int.one_mul]
    rw [e]
    split <;> omega
theorem level_take {n : Nat} {s : Int} {k : Nat} (h : k ≤ n) : (level n s).take k = (List.range k).map (lv n s) := by
  unfold level
  rw [← List.map_take, List.take_range, Nat.min_eq_left h]
theorem level_sum {n : Nat} {s : Int} (h : 0 < n) : (level n s).sum = s := by
  have h0 := Int.emod_nonneg s (show (n : Int) ≠ 0 by omega)
  have h1 := Int.emod_lt_of_pos s (show 0 < (n : Int) by omega)
  have e := lv_sum h0 n
  unfold level
  rw [e, Int.min_eq_right (by omega)]
  exact Int.mul_ediv_add_emod s n
theorem level_at {n : Nat} {s : Int} {k : Nat} (h : k < n) : (level n s)[k]? = some (lv n s k) := by
  unfold level
  rw [List.getElem?_map, List.getElem?_range h]
  rfl
theorem lv_mono {n : Nat} {s : Int} {i j : Nat} (h : i ≤ j) : lv n s j ≤ lv n s i := by
  unfold lv
  split <;> split <;> omega
theorem level_sorted (n : Nat) (s : Int) : (level n s).Pairwise (· ≥ ·) := by
  unfold level
  rw [List.pairwise_map]
  exact List.pairwise_lt_range.imp fun h => lv_mono (Nat.le_of_lt h)
theorem sd_level (n : Nat) (s : Int) : sd (level n s) = level n s := (sd_uniq (List.Perm.refl _) (level_sorted n s)).symm
theorem lv_sq {n : Nat} {s : Int} (h : 0 ≤ s % (n : Int)) : ∀ k : Nat, ((List.range k).map fun i => lv n s i * lv n s i).sum = (k : Int) * ((s / (n : Int)) * (s / (n : Int))) + min (k : Int) (s % (n : Int)) * (2 * (s / (n : Int)) + 1)
  | 0 => by
    have e : min ((0 : Nat) : Int) (s % (n : Int)) = 0 := by omega
    rw [e]
    simp
  | k + 1 => by
    rw [rsum_succ, lv_sq h k]
    unfold lv
    rw [Int.natCast_add]
    by_cases c : (k : Int) < s % (n : Int)
    · rw [if_pos c, Int.min_eq_left (by omega), Int.min_eq_left (by omega)]
      generalize s / (n : Int) = q
      generalize (k : Int) = m
      show _ = (m + 1) * _ + (m + 1) * _
      grind
    · rw [if_neg c, Int.min_eq_right (by omega), Int.min_eq_right (by omega)]
      generalize s / (n : Int) = q
      generalize s % (n : Int) = r
      generalize (k : Int) = m
      show _ = (m + 1) * _ + _
      grind
theorem spread_level {n : Nat} {s : Int} (h : 0 < n) : spread (level n s) = s % (n : Int) * ((n : Int) - s % (n : Int)) := by
  have h0 := Int.emod_nonneg s (show (n : Int) ≠ 0 by omega)
  have h1 := Int.emod_lt_of_pos s (show 0 < (n : Int) by omega)
  have e1 : sq (level n s) = (n : Int) * ((s / (n : Int)) * (s / (n : Int))) + s % (n : Int) * (2 * (s / (n : Int)) + 1) := by
    unfold sq level
    rw [List.map_map]
    have e := lv_sq h0 n
    rw [Int.min_eq_right (by omega)] at e
    exact e
  unfold spread
  rw [e1, level_sum h, level_len]
  have e2 := Int.mul_ediv_add_emod s n
  generalize s / (n : Int) = q at *
  generalize s % (n : Int) = r at *
  generalize (n : Int) = m at *
  subst e2
  grind
theorem spread_nil : spread [] = 0 := rfl
/-- no k of the fullest hold less than the level row's -/
theorem level_below {l : List Int} (hs : l.Pairwise (· ≥ ·)) {k : Nat} (hk : k ≤ l.length) : ((level l.length l.sum).take k).sum ≤ (l.take k).sum := by
  rw [level_take hk]
  cases k with
  | zero => simp
  | succ m =>
    have hn : (l.length : Int) ≠ 0 := by omega
    have h0 := Int.emod_nonneg l.sum hn
    have h1 := Int.emod_lt_of_pos l.sum (show 0 < (l.length : Int) by omega)
    rw [lv_sum h0]
    have e2 := Int.mul_ediv_add_emod l.sum l.length
    have hx := getD_at (l := l) (i := m) (by omega)
    generalize l.getD m 0 = x at hx
    have htd : l.take (m + 1) ++ l.drop (m + 1) = l := List.take_append_drop _ _
    have hsum : (l.take (m + 1)).sum + (l.drop (m + 1)).sum = l.sum := by
      rw [← List.sum_append, htd]
    have hp : ∀ i j (a b : Int), i < j → l[i]? = some a → l[j]? = some b → b ≤ a := fun i j a b hij ha hb => by
      obtain ⟨h3, rfl⟩ := List.getElem?_eq_some_iff.mp ha
      obtain ⟨h4, rfl⟩ := List.getElem?_eq_some_iff.mp hb
      exact List.pairwise_iff_getElem.mp hs i j h3 h4 hij
    have g1 : ∀ y ∈ l.take (m + 1), x ≤ y := fun y hy => by
      obtain ⟨i, hi⟩ := List.mem_iff_getElem?.mp hy
      rw [List.getElem?_take] at hi
      split at hi
      · rename_i c
        by_cases e : i = m
        · subst e
          rw [hx] at hi
          have := Option.some.inj hi
          omega
        · exact hp i m y x (by omega) hi hx
      · cases hi
    have g2 : ∀ y ∈ l.drop (m + 1), y ≤ x := fun y hy => by
      obtain ⟨i, hi⟩ := List.mem_iff_getElem?.mp hy
      rw [List.getElem?_drop] at hi
      exact hp m (m + 1 + i) x y (by omega) hx hi
    have s1 := sum_ge g1
    have s2 := sum_le g2
    rw [List.length_take, Nat.min_eq_left (by omega)] at s1
    rw [List.length_drop] at s2
    generalize l.sum / (l.length : Int) = q at *
    generalize l.sum % (l.length : Int) = r at *
    generalize (l.take (m + 1)).sum = T at *
    generalize (l.drop (m + 1)).sum = U at *
    have hd : ((l.length - (m + 1) : Nat) : Int) = (l.length : Int) - ((m + 1 : Nat) : Int) := by omega
    rw [hd] at s2
    have hkn : 0 ≤ (l.length : Int) - ((m + 1 : Nat) : Int) := by omega
    have hk0 : 0 ≤ ((m + 1 : Nat) : Int) := by omega
    generalize ((m + 1 : Nat) : Int) = K at *
    generalize (l.length : Int) = N at *
    by_cases c : q + 1 ≤ x
    · have e4 : K * (q + 1) ≤ K * x := Int.mul_le_mul_of_nonneg_left c hk0
      rw [Int.mul_add, Int.mul_one] at e4
      omega
    · have e4 : (N - K) * x ≤ (N - K) * q := Int.mul_le_mul_of_nonneg_left (by omega) hkn
      rw [Int.sub_mul (c := q)] at e4
      omega
theorem tops_at {l : List Int} {k : Nat} (h : k ≤ l.length) : (tops l)[k]? = some ((sd l).take k).sum := psums_get (by rw [sd_len]; exact h)
theorem tops_level_le {l : List Int} {k : Nat} {x y : Int} (hx : (tops (level l.length l.sum))[k]? = some x) (hy : (tops l)[k]? = some y) : x ≤ y := by
  have hk : k ≤ l.length := by
    have h := (List.getElem?_eq_some_iff.mp hy).1
    rw [tops_len] at h
    omega
  rw [tops_at hk] at hy
  rw [tops_at (by rw [level_len]; exact hk), sd_level] at hx
  have e1 := Option.some.inj hx
  have e2 := Option.some.inj hy
  have h := level_below (sd_sorted l) (k := k) (by rw [sd_len]; exact hk)
  rw [sd_len, perm_sum (sd_perm l)] at h
  omega
theorem rest0 (ms : List Int) : 0 ≤ ms.sum % (ms.length : Int) := by
  cases ms with
  | nil => decide
  | cons a l => exact Int.emod_nonneg _ (by rw [List.length_cons]; omega)
theorem restn (ms : List Int) : min (ms.length : Int) (ms.sum % (ms.length : Int)) = ms.sum % (ms.length : Int) := by
  cases ms with
  | nil => decide
  | cons a l => exact Int.min_eq_right (Int.le_of_lt (Int.emod_lt_of_pos _ (by rw [List.length_cons]; omega)))
theorem spread_level' (ms : List Int) : spread (level ms.length ms.sum) = ms.sum % (ms.length : Int) * ((ms.length : Int) - ms.sum % (ms.length : Int)) := by
  cases ms with
  | nil => decide
  | cons a l => exact spread_level (by rw [List.length_cons]; omega)
/-- one more that holds more than the last -/
theorem more_step {ms : List Int} {i : Nat} (hi : i < ms.length) : min (i : Int) (ms.sum % (ms.length : Int)) + (if decide (lv ms.length ms.sum (ms.length - 1) < lv ms.length ms.sum i) = true then 1 else 0) = min ((i + 1 : Nat) : Int) (ms.sum % (ms.length : Int)) := by
  have h1 := Int.emod_lt_of_pos ms.sum (show 0 < (ms.length : Int) by omega)
  have h0 := rest0 ms
  unfold lv
  rw [if_neg (show ¬ ((ms.length - 1 : Nat) : Int) < ms.sum % (ms.length : Int) by omega)]
  by_cases c : (i : Int) < ms.sum % (ms.length : Int)
  · rw [if_pos c, decide_eq_true (by omega), if_pos rfl]
    omega
  · rw [if_neg c, decide_eq_false (by omega), if_neg Bool.false_ne_true]
    omega
end Pm

set_option Elab.async false
set_option linter.all false
/-! Pg: plain mathematics: gifts, walks, what they do to the tops and to the spread. -/
namespace Pg
open Pm
/-- does the gift (g, t, d) fit the row -/
structure Fits (ns : List Int) (g t d : Int) : Prop where
  d1 : 1 ≤ d
  g0 : 0 ≤ g
  gn : g < (ns.length : Int)
  t0 : 0 ≤ t
  tn : t < (ns.length : Int)
  more : d ≤ ns.getD g.toNat 0 - ns.getD t.toNat 0
def fitsB (ns : List Int) (g t d : Int) : Bool := decide (1 ≤ d) && decide (0 ≤ g) && decide (g < (ns.length : Int)) && decide (0 ≤ t) && decide (t < (ns.length : Int)) && decide (d ≤ ns.getD g.toNat 0 - ns.getD t.toNat 0)
theorem fitsB_iff {ns : List Int} {g t d : Int} : fitsB ns g t d = true ↔ Fits ns g t d := by
  unfold fitsB
  simp only [Bool.and_eq_true, decide_eq_true_eq]
  exact ⟨fun ⟨⟨⟨⟨⟨a, b⟩, c⟩, d⟩, e⟩, f⟩ => ⟨a, b, c, d, e, f⟩, fun ⟨a, b, c, d, e, f⟩ => ⟨⟨⟨⟨⟨a, b⟩, c⟩, d⟩, e⟩, f⟩⟩
theorem fitsB_not {ns : List Int} {g t d : Int} (h : ¬ Fits ns g t d) : fitsB ns g t d = false := by
  cases e : fitsB ns g t d with
  | false => rfl
  | true => exact absurd (fitsB_iff.mp e) h
/-- the row behind the gift -/
def done (ns : List Int) (g t d : Int) : List Int := (ns.set g.toNat (ns.getD g.toNat 0 - d)).set t.toNat (ns.getD t.toNat 0 + d)
theorem done_len (ns : List Int) (g t d : Int) : (done ns g t d).length = ns.length := by unfold done; rw [List.length_set, List.length_set]
theorem Fits.ne {ns : List Int} {g t d : Int} (h : Fits ns g t d) : g.toNat ≠ t.toNat := fun e => by
  have h1 := h.more
  have h2 := h.d1
  rw [e] at h1
  omega
theorem getD_set_ne {l : List Int} {i j : Nat} {x : Int} (h : i ≠ j) : (l.set i x).getD j 0 = l.getD j 0 := by
  rw [List.getD_eq_getElem?_getD, List.getD_eq_getElem?_getD, List.getElem?_set_ne h]
theorem msum_set (f : Int → Int) : ∀ (l : List Int) (i : Nat) (x : Int), i < l.length → ((l.set i x).map f).sum = (l.map f).sum - f (l.getD i 0) + f x
  | [], i, x, h => absurd h (Nat.not_lt_zero _)
  | a :: l, 0, x, _ => by
    show f x + (l.map f).sum = f a + (l.map f).sum - f a + f x
    omega
  | a :: l, i + 1, x, h => by
    have ih := msum_set f l i x (by simpa using h)
    show f a + ((l.set i x).map f).sum = f a + (l.map f).sum - f (l.getD i 0) + f x
    rw [ih]
    omega
/-- what a gift does to a sum over the purses -/
theorem msum_done (f : Int → Int) {ns : List Int} {g t d : Int} (h : Fits ns g t d) : ((done ns g t d).map f).sum = (ns.map f).sum - f (ns.getD g.toNat 0) - f (ns.getD t.toNat 0) + f (ns.getD g.toNat 0 - d) + f (ns.getD t.toNat 0 + d) := by
  have h1 := h.g0
  have h2 := h.gn
  have h3 := h.t0
  have h4 := h.tn
  unfold done
  rw [msum_set f _ _ _ (by rw [List.length_set]; omega), msum_set f _ _ _ (by omega), getD_set_ne h.ne]
  omega
theorem sum_done {ns : List Int} {g t d : Int} (h : Fits ns g t d) : (done ns g t d).sum = ns.sum := by
  have e := msum_done (fun x => x) h
  rw [List.map_id', List.map_id'] at e
  omega
theorem sq_done {ns : List Int} {g t d : Int} (h : Fits ns g t d) : sq (done ns g t d) = sq ns - 2 * d * (ns.getD g.toNat 0 - ns.getD t.toNat 0 - d) := by
  have e := msum_done (fun x => x * x) h
  unfold sq
  rw [e]
  generalize ns.getD g.toNat 0 = a
  generalize ns.getD t.toNat 0 = b
  grind
theorem spread_done {ns : List Int} {g t d : Int} (h : Fits ns g t d) : spread ns - spread (done ns g t d) = 2 * (ns.length : Int) * d * ((ns.getD g.toNat 0 - ns.getD t.toNat 0) - d) := by
  unfold spread
  rw [done_len, sum_done h, sq_done h]
  generalize ns.getD g.toNat 0 = a
  generalize ns.getD t.toNat 0 = b
  generalize sq ns = q
  generalize ns.sum * ns.sum = s
  generalize (ns.length : Int) = n
  grind
/-- what is held above c -/
def ab (c x : Int) : Int := max 0 (x - c)
def F (c : Int) (ns : List Int) : Int := (ns.map (ab c)).sum
theorem F_perm {a b : List Int} (c : Int) (p : a.Perm b) : F c a = F c b := perm_sum (p.map _)
theorem F_app (c : Int) (a b : List Int) : F c (a ++ b) = F c a + F c b := by unfold F; rw [List.map_append, List.sum_append]
theorem F_nonneg (c : Int) : ∀ l : List Int, 0 ≤ F c l
  | [] => by simp [F]
  | x :: l => by
    have ih := F_nonneg c l
    have e : F c (x :: l) = ab c x + F c l := by unfold F; rw [List.map_cons, List.sum_cons]
    unfold ab at e
    omega
theorem F_ge (c : Int) : ∀ l : List Int, l.sum ≤ (l.length : Int) * c + F c l
  | [] => by simp [F]
  | x :: l => by
    have ih := F_ge c l
    have e : F c (x :: l) = ab c x + F c l := by unfold F; rw [List.map_cons, List.sum_cons]
    have e2 : ((l.length + 1 : Nat) : Int) * c = (l.length : Int) * c + c := by
      rw [Int.natCast_add, Int.add_mul]
      show _ + 1 * c = _
      rw [Int.one_mul]
    rw [List.sum_cons, List.length_cons, e, e2]
    unfold ab
    omega
theorem F_above {c : Int} : ∀ {l : List Int}, (∀ x ∈ l, c ≤ x) → F c l = l.sum - (l.length : Int) * c
  | [], _ => by simp [F]
  | x :: l, h => by
    have ih := F_above (c := c) (l := l) fun y hy => h y (List.mem_cons_of_mem _ hy)
    have h1 := h x List.mem_cons_self
    have e : F c (x :: l) = ab c x + F c l := by unfold F; rw [List.map_cons, List.sum_cons]
    have e2 : ((l.length + 1 : Nat) : Int) * c = (l.length : Int) * c + c := by
      rw [Int.natCast_add, Int.add_mul]
      show _ + 1 * c = _
      rw [Int.one_mul]
    rw [List.sum_cons, List.length_cons, e, e2, ih]
    unfold ab
    omega
theorem F_below {c : Int} : ∀ {l : List Int}, (∀ x ∈ l, x ≤ c) → F c l = 0
  | [], _ => by simp [F]
  | x :: l, h => by
    have ih := F_below (c := c) (l := l) fun y hy => h y (List.mem_cons_of_mem _ hy)
    have h1 := h x List.mem_cons_self
    have e : F c (x :: l) = ab c x + F c l := by unfold F; rw [List.map_cons, List.sum_cons]
    rw [e, ih]
    unfold ab
    omega
/-- the k fullest, by what is held above c -/
theorem top_le (c : Int) (l : List Int) {k : Nat} (hk : k ≤ l.length) : (l.take k).sum ≤ (k : Int) * c + F c l := by
  have h1 := F_ge c (l.take k)
  have h2 := F_nonneg c (l.drop k)
  have h3 := F_app c (l.take k) (l.drop k)
  rw [List.take_append_drop] at h3
  rw [List.length_take, Nat.min_eq_left hk] at h1
  omega
theorem sorted_at {l : List Int} (hs : l.Pairwise (· ≥ ·)) {i j : Nat} {a b : Int} (hij : i < j) (ha : l[i]? = some a) (hb : l[j]? = some b) : b ≤ a := by
  obtain ⟨h3, rfl⟩ := List.getElem?_eq_some_iff.mp ha
  obtain ⟨h4, rfl⟩ := List.getElem?_eq_some_iff.mp hb
  exact List.pairwise_iff_getElem.mp hs i j h3 h4 hij
theorem top_eq {l : List Int} (hs : l.Pairwise (· ≥ ·)) {m : Nat} {c : Int} (hc : l[m]? = some c) : (l.take (m + 1)).sum = ((m + 1 : Nat) : Int) * c + F c l := by
  have hm : m < l.length := (List.getElem?_eq_some_iff.mp hc).1
  have g1 : ∀ y ∈ l.take (m + 1), c ≤ y := fun y hy => by
    obtain ⟨i, hi⟩ := List.mem_iff_getElem?.mp hy
    rw [List.getElem?_take] at hi
    split at hi
    · rename_i z
      by_cases e : i = m
      · subst e
        rw [hc] at hi
        have := Option.some.inj hi
        omega
      · exact sorted_at hs (show i < m by omega) hi hc
    · cases hi
  have g2 : ∀ y ∈ l.drop (m + 1), y ≤ c := fun y hy => by
    obtain ⟨i, hi⟩ := List.mem_iff_getElem?.mp hy
    rw [List.getElem?_drop] at hi
    exact sorted_at hs (show m < m + 1 + i by omega) hc hi
  have h1 := F_above g1
  have h2 := F_below g2
  have h3 := F_app c (l.take (m + 1)) (l.drop (m + 1))
  rw [List.take_append_drop] at h3
  rw [List.length_take, Nat.min_eq_left (by omega)] at h1
  omega
/-- majorized: as many, and no more above any level -/
def Le (ms ns : List Int) : Prop := ms.length = ns.length ∧ ∀ c, F c ms ≤ F c ns
theorem Le.refl (a : List Int) : Le a a := ⟨rfl, fun _ => Int.le_refl _⟩
theorem Le.trans {a b c : List Int} (h : Le a b) (k : Le b c) : Le a c := ⟨h.1.trans k.1, fun x => Int.le_trans (h.2 x) (k.2 x)⟩
theorem Le.tops {ms ns : List Int} (h : Le ms ns) {k : Nat} (hk : k ≤ ns.length) : ((sd ms).take k).sum ≤ ((sd ns).take k).sum := by
  cases k with
  | zero => simp
  | succ m =>
    have hx := getD_at (l := sd ns) (i := m) (by rw [sd_len]; omega)
    generalize (sd ns).getD m 0 = c at hx
    have h1 := top_eq (sd_sorted ns) hx
    have h2 := top_le c (sd ms) (k := m + 1) (by rw [sd_len, h.1]; exact hk)
    have h3 := h.2 c
    rw [F_perm c (sd_perm ns)] at h1
    rw [F_perm c (sd_perm ms)] at h2
    omega
theorem Le.of_tops {ms ns : List Int} (hl : ms.length = ns.length) (h : ∀ k, k ≤ ns.length → ((sd ms).take k).sum ≤ ((sd ns).take k).sum) : Le ms ns := by
  refine ⟨hl, fun c => ?_⟩
  -- take k: how many of ms hold more than c
  have hms : ∀ l : List Int, l.Pairwise (· ≥ ·) → ∃ k, k ≤ l.length ∧ F c l = (l.take k).sum - (k : Int) * c := by
    intro l
    induction l with
    | nil => intro _; exact ⟨0, Nat.le_refl _, by simp [F]⟩
    | cons x l ih =>
      intro hp
      obtain ⟨h1, h2⟩ := List.pairwise_cons.mp hp
      by_cases hx : c ≤ x
      · obtain ⟨k, hk, e⟩ := ih h2
        refine ⟨k + 1, by rw [List.length_cons]; omega, ?_⟩
        have e3 : F c (x :: l) = ab c x + F c l := by unfold F; rw [List.map_cons, List.sum_cons]
        have e2 : ((k + 1 : Nat) : Int) * c = (k : Int) * c + c := by
          rw [Int.natCast_add, Int.add_mul]
          show _ + 1 * c = _
          rw [Int.one_mul]
        rw [e3, e, List.take_succ_cons, List.sum_cons, e2]
        unfold ab
        omega
      · refine ⟨0, Nat.zero_le _, ?_⟩
        have e4 : F c (x :: l) = 0 := F_below fun y hy => by
          rcases List.mem_cons.mp hy with rfl | hy
          · omega
          · have h3 := h1 y hy
            omega
        rw [e4]
        simp
  obtain ⟨k, hk, e⟩ := hms _ (sd_sorted ms)
  rw [sd_len] at hk
  rw [F_perm c (sd_perm ms)] at e
  have h2 := top_le c (sd ns) (k := k) (by rw [sd_len]; omega)
  rw [F_perm c (sd_perm ns)] at h2
  have h3 := h k (by omega)
  omega
theorem le_done {ns : List Int} {g t d : Int} (h : Fits ns g t d) : Le (done ns g t d) ns := by
  refine ⟨done_len _ _ _ _, fun c => ?_⟩
  have e := msum_done (ab c) h
  unfold F
  rw [e]
  have h1 := h.more
  have h2 := h.d1
  unfold ab
  omega
theorem le_level (ns : List Int) : Le (level ns.length ns.sum) ns := Le.of_tops (level_len _ _) fun k hk => by
  rw [sd_level]
  have h := level_below (sd_sorted ns) (k := k) (by rw [sd_len]; exact hk)
  rw [sd_len, perm_sum (sd_perm ns)] at h
  exact h
theorem bd_done {n : Nat} {ns : List Int} {g t d : Int} (h : Fits ns g t d) (hb : ∀ z ∈ ns, Px.Bd n z) : ∀ z ∈ done ns g t d, Px.Bd n z := by
  have h1 := h.g0
  have h2 := h.gn
  have h3 := h.t0
  have h4 := h.tn
  have h5 := h.more
  have h6 := h.d1
  have b1 : Px.Bd n (ns.getD g.toNat 0) := hb _ (by
    have e := getD_at (l := ns) (i := g.toNat) (by omega)
    exact List.mem_of_getElem? e)
  have b2 : Px.Bd n (ns.getD t.toNat 0) := hb _ (by
    have e := getD_at (l := ns) (i := t.toNat) (by omega)
    exact List.mem_of_getElem? e)
  intro z hz
  unfold done at hz
  rcases List.mem_or_eq_of_mem_set hz with hz | rfl
  · rcases List.mem_or_eq_of_mem_set hz with hz | rfl
    · exact hb z hz
    · unfold Px.Bd at *
      omega
  · unfold Px.Bd at *
    omega
/-- a list of gifts, one by one -/
abbrev Gift := Int × Int × Int
def walk : List Int → List Gift → Option (List Int)
  | ns, [] => some ns
  | ns, (g, t, d) :: r => if fitsB ns g t d = true then walk (done ns g t d) r else none
theorem walk_app : ∀ (ns : List Int) (a b : List Gift), walk ns (a ++ b) = (walk ns a).bind fun ms => walk ms b
  | ns, [], b => rfl
  | ns, (g, t, d) :: a, b => by
    show (if fitsB ns g t d = true then walk (done ns g t d) (a ++ b) else none) = (if fitsB ns g t d = true then walk (done ns g t d) a else none).bind _
    by_cases h : fitsB ns g t d = true
    · rw [if_pos h, if_pos h]
      exact walk_app _ a b
    · rw [if_neg h, if_neg h]
      rfl
theorem walk_one {ns : List Int} {g t d : Int} (h : Fits ns g t d) : walk ns [(g, t, d)] = some (done ns g t d) := by
  show (if fitsB ns g t d = true then some (done ns g t d) else none) = _
  rw [if_pos (fitsB_iff.mpr h)]
theorem walk_bad {ns : List Int} {g t d : Int} {r : List Gift} (h : ¬ Fits ns g t d) : walk ns ((g, t, d) :: r) = none := by
  show (if fitsB ns g t d = true then walk (done ns g t d) r else none) = none
  rw [if_neg fun z => h (fitsB_iff.mp z)]
theorem walk_snoc {ns ms : List Int} {a : List Gift} {g t d : Int} (h : walk ns a = some ms) (k : Fits ms g t d) : walk ns (a ++ [(g, t, d)]) = some (done ms g t d) := by
  rw [walk_app, h]
  exact walk_one k
theorem walk_stop {ns ms : List Int} {a b : List Gift} {g t d : Int} (h : walk ns a = some ms) (k : ¬ Fits ms g t d) : walk ns (a ++ (g, t, d) :: b) = none := by
  rw [walk_app, h]
  exact walk_bad k
theorem walk_len : ∀ {ns ms : List Int} {a : List Gift}, walk ns a = some ms → ms.length = ns.length
  | ns, ms, [], h => by
    have e : ns = ms := Option.some.inj h
    rw [e]
  | ns, ms, (g, t, d) :: a, h => by
    have h2 : (if fitsB ns g t d = true then walk (done ns g t d) a else none) = some ms := h
    split at h2
    · rw [walk_len h2, done_len]
    · cases h2
theorem walk_le : ∀ {ns ms : List Int} {a : List Gift}, walk ns a = some ms → Le ms ns ∧ ms.sum = ns.sum
  | ns, ms, [], h => by
    have e : ns = ms := Option.some.inj h
    rw [e]
    exact ⟨Le.refl _, rfl⟩
  | ns, ms, (g, t, d) :: a, h => by
    have h2 : (if fitsB ns g t d = true then walk (done ns g t d) a else none) = some ms := h
    split at h2
    · rename_i c
      have f := fitsB_iff.mp c
      have h3 := walk_le h2
      exact ⟨h3.1.trans (le_done f), h3.2.trans (sum_done f)⟩
    · cases h2
end Pg

set_option Elab.async false
set_option linter.all false
set_option maxRecDepth 100000
set_option maxHeartbeats 4000000
/-! Pr: list(reversed(xs)). -/
namespace RT
open PySem PySem.Spec PyProof.Rows L2
section
variable {prog : Program} {w : World} {A : Around} {E : Value → Shared → Prop} {s : Shared}
theorem extend_rev {R : Result → Shared → Prop} {it l : Addr} {items : Array Value} {c₀ : Nat} (hh : A.handled = none) (hit : s.heap.IsRevIter it l ((items.size : Int) - 1)) (hl : s.heap.IsList l items) (hne : l ≠ it) (hn : items.size ≤ sizeLine)
    (S : Addr) (hSi : S ≠ it) (hSl : S ≠ l) (res : Value) (hS : s.heap.get? S = some { cls := .type "list", dict := none, data := .seq #[] c₀, slots := #[] })
    (hR : ∀ (h' : Heap) (tk : Nat) (acc : Array Value) (c' : Nat), (∀ b o, b ≠ it → b ≠ S → s.heap.get? b = some o → h'.get? b = some o) → h'.get? S = some { cls := .type "list", dict := none, data := .seq acc c', slots := #[] } →
      ItemsOf (fun i v => items[items.size - 1 - i]? = some v) acc items.size → R (.ok (.ret res)) { s with heap := h', toks := tk }) :
    wpAny (model prog w) A.in1 (Builtin.List.listExtendWith (.ref S) (.ref it) res)
      (fun fin s' => match fin with | .done f => R (.ok f) s' | .again c' => c'.quiet = true ∧ codeAny (model prog w) A c' R s') (fun e s' => R (.error e) s') s := by
  have W := (Walks.listRev (prog := prog) (w := w) (A := A.in1) hh it l hne items).toS
  have hSf : S ∉ [it, l] := by simp only [List.mem_cons, List.not_mem_nil, or_false, not_or]; exact ⟨hSi, hSl⟩
  have hT : s.TypeIs (.ref it) "list_reverseiterator" := Heap.IsRevIter.typeIs hit
  have h1 : Builtin.List.listSameRef (.ref S) (.ref it) = false := by simp [Builtin.List.listSameRef, hSi]
  unfold Builtin.List.listExtendWith
  refine wpAny_bind (wpAny_typeOf hT ?_)
  rw [if_neg (by rw [h1]; decide)]
  refine wpAny_bind (wpAny_pyIter_revIter hit ?_)
  refine wpAny_bind (wpAny_holding ?_)
  unfold Builtin.List.listLengthHint
  refine wpAny_bind (wpAny_specialOf hT nolen_lri ?_)
  show wpAny _ A.in1 (specialOf (Value.ref it) (Str.ofString "__length_hint__") >>= _) _ _ _
  refine wpAny_bind (wpAny_specialOf hT hint_lri ?_)
  generalize hid : ("list_reverseiterator.__length_hint__" : String) = id0
  wp_delta
  rw [show splitId id0 = some ("list_reverseiterator", "__length_hint__") from by subst hid; decide +kernel]
  subst hid
  refine wpAny_bind (wpAny_isInstance (b := true) hT (by rw [isSubtype_type]; kernel_rfl) ?_)
  refine wpAny_pure ?_
  rw [if_neg (by decide)]
  have e0 : ((items.size : Nat) : Int) - 1 - ((0 : Nat) : Int) = (items.size : Int) - 1 := by omega
  refine wpAny_pure ⟨plainId_quiet F.plain_extend_loop _, codeAny_extend_loopS W hn _ hSf _ items.size 0 _ _ _ rfl (Nat.zero_le _) ⟨Nat.zero_le _, by rw [e0]; exact hit, hl⟩ hS (ItemsOf.nil _) fun s' acc' c' hm hS' hacc => ?_⟩
  rw [Moved.eq_with hm]
  refine hR s'.heap s'.toks acc' c' (fun b o hb hb2 e => hm.heap b o (fun hmem => ?_) e) hS' hacc
  rcases List.mem_cons.mp hmem with e' | hmem
  · exact hb2 e'
  · exact hb (List.mem_singleton.mp hmem)
theorem list_init_rev {R : Result → Shared → Prop} {it l : Addr} {items : Array Value} (hh : A.handled = none) (hit : s.heap.IsRevIter it l ((items.size : Int) - 1)) (hl : s.heap.IsList l items) (hne : l ≠ it) (hn : items.size ≤ sizeLine)
    (S : Addr) (hSi : S ≠ it) (hSl : S ≠ l) (hS : s.heap.get? S = some { cls := .type "list", data := .seq #[] })
    (hR : ∀ (h' : Heap) (tk : Nat) (acc : Array Value) (c' : Nat), (∀ b o, b ≠ it → b ≠ S → s.heap.get? b = some o → h'.get? b = some o) → h'.get? S = some { cls := .type "list", dict := none, data := .seq acc c', slots := #[] } →
      ItemsOf (fun i v => items[items.size - 1 - i]? = some v) acc items.size → R (.ok (.ret .none)) { s with heap := h', toks := tk }) :
    wpAny (model prog w) A.in1 (Builtin.«list.__init__» ⟨[.ref S, .ref it], []⟩)
      (fun fin s' => match fin with | .done f => R (.ok f) s' | .again c' => c'.quiet = true ∧ codeAny (model prog w) A c' R s') (fun e s' => R (.error e) s') s := by
  show wpAny _ _ (do let old ← Builtin.List.listItems (.ref S); Builtin.List.listUpdate (.ref S) (fun _ => #[]); letGo old.toList.reverse; Builtin.List.listExtendWith (.ref S) (.ref it) .none) _ _ s
  refine wpAny_bind ?_
  unfold Builtin.List.listItems
  refine wpAny_bind (wpAny_seqItems hS rfl (wpAny_pure ?_))
  show wpAny _ _ (updateSeq S (fun _ => #[]) >>= fun _ => letGo (#[] : Array Value).toList.reverse >>= fun _ => Builtin.List.listExtendWith (.ref S) (.ref it) .none) _ _ s
  refine wpAny_bind (wpAny_updateSeq hS rfl ?_)
  have hS₂ := Heap.get?_update_self (Obj.mapSeq (fun _ => (#[] : Array Value))) hS rfl
  have oth : ∀ b o, b ≠ S → s.heap.get? b = some o → (s.heap.update S (Obj.mapSeq (fun _ => (#[] : Array Value)))).get? b = some o :=
    fun b o hb e => (Heap.get?_update_other _ _ (Ne.symm hb)).trans e
  refine wpAny_bind (wpAny_letGo ?_)
  have hl2 : (s.heap.update S (Obj.mapSeq (fun _ => (#[] : Array Value)))).IsList l items := by
    obtain ⟨o, ho, r⟩ := hl
    exact ⟨o, oth l o (Ne.symm hSl) ho, r⟩
  refine extend_rev (s := { s with heap := s.heap.update S (Obj.mapSeq (fun _ => (#[] : Array Value))) }) hh (hit.at fun o e => oth it o (Ne.symm hSi) e) hl2 hne hn S hSi hSl .none hS₂ fun h' tk acc' c' hk hS' hacc => ?_
  exact hR h' tk acc' c' (fun b o hb hb2 e => hk b o hb hb2 (oth b o hb2 e)) hS' hacc
theorem call_list_rev {Q : Value → Shared → Prop} {it l : Addr} {items : Array Value} (hh : A.handled = none) (hit : s.heap.IsRevIter it l ((items.size : Int) - 1)) (hl : s.heap.IsList l items) (hne : l ≠ it) (hn : items.size ≤ sizeLine)
    (hQ : ∀ (h' : Heap) (tk : Nat) (acc : Array Value) (c' : Nat), (∀ b o, b ≠ it → s.heap.get? b = some o → h'.get? b = some o) → h'.get? s.heap.objs.size = some { cls := .type "list", dict := none, data := .seq acc c', slots := #[] } →
      ItemsOf (fun i v => items[items.size - 1 - i]? = some v) acc items.size → Q (.ref s.heap.objs.size) { s with heap := h', toks := tk }) :
    wpAny (model prog w) A (call (.type "list") [.ref it]) Q E s := by
  refine callType_codes (Q₁ := fun obj s₁ => obj = .ref s.heap.objs.size ∧ s₁ = { s with heap := s.heap.push { cls := .type "list", data := .seq #[] } }) F.called_list (F.typeCall_list_1 _) F.entry_list_init
    (code_list_new _ ⟨rfl, rfl⟩) fun obj s₁ h₁ => ?_
  obtain ⟨rfl, rfl⟩ := h₁
  have hS : (s.heap.push { cls := .type "list", data := .seq #[] }).get? s.heap.objs.size = some { cls := .type "list", data := .seq #[] } := Heap.get?_push_size _ rfl
  obtain ⟨oi, hoi, _⟩ := id hit
  obtain ⟨ol, hol, _⟩ := id hl
  have hSi : s.heap.objs.size ≠ it := Nat.ne_of_gt (Heap.lt_size hoi)
  have hSl : s.heap.objs.size ≠ l := Nat.ne_of_gt (Heap.lt_size hol)
  refine ⟨⟨_, hS, rfl⟩, F.args_list_init_2 _ _, list_init_rev (A := A.in1) hh (hit.at fun o e => Heap.get?_push_of_some _ e) (hl.push _) hne hn _ hSi hSl hS fun h' tk acc' c' hk hS' hacc => ?_⟩
  exact ⟨rfl, hQ h' tk acc' c' (fun b o hb e => hk b o hb (Nat.ne_of_lt (Heap.lt_size e)) (Heap.get?_push_of_some _ e)) hS' hacc⟩
end
end RT
namespace Px
open PySem PySem.Spec PyProof.Rows L2 Evl
section
variable {X : Cx}
/-- list(reversed(x)), x a list: a new list -/
def tLstRev (K : PySem.W.Frag) (te : TE) : TE := fun σ H Q => te σ H fun v H1 => ∃ (a : Addr) (xs : List V), v = .ref a ∧ SqL K H1 a xs ∧ ∀ q, H1 q = none → Q (.ref q) (upd H1 q (.lst xs.reverse))
theorem pe_lstRev {K : PySem.W.Frag} {e : Expr} {te : TE} {p p2 pos pos2 : Pos} (hc : X.calm = true) (hg : Gl X "list") (hm : X.mg "list" = none) (hg2 : Gl X "reversed") (hm2 : X.mg "reversed" = none) (he : PE X e te) (hK : X.K = K := by rfl)
    (hs : starEach [e] X.env = (false, eval e X.env) :: starEach [] X.env := by rfl)
    (hs2 : starEach [.Call (.Name "reversed" p2) [e] [] pos2] X.env = (false, eval (.Call (.Name "reversed" p2) [e] [] pos2) X.env) :: starEach [] X.env := by rfl) :
    PE X (.Call (.Name "list" p) [.Call (.Name "reversed" p2) [e] [] pos2] [] pos) (tLstRev K te) := by
  subst hK
  refine ⟨fun pins s σ H Q I h => ?_⟩
  refine Call_ (ld_blt I hg hm boot_list (PyProof.Rows.callWith_type1 (args_cons (Call_ (ld_blt I hg2 hm2 PyProof.Rows.boot_reversed (PyProof.Rows.callWith_type1 (args_cons (thn (he.run pins s σ H _ I h) fun u s1 ⟨v, H1, I1, r1, q1⟩ => args_nil ?_) hs) hs rfl))) hs2) hs2 rfl))
  obtain ⟨a, xs, ev, hq, q⟩ := q1
  subst ev
  obtain rfl : u = Value.ref a := r1
  obtain ⟨its, rv, p', hz⟩ := I1.list hq
  refine call_reversed_list p'.isList (args_nil ?_)
  have k0 : ∀ b o, s1.heap.get? b = some o → (s1.heap.push (revObj a ((its.toArray.size : Int) - 1))).get? b = some o := fun b o e => Heap.get?_push_of_some _ e
  have hl := p'.isList
  obtain ⟨ol, hol, _⟩ := id hl
  have hne : a ≠ s1.heap.objs.size := Nat.ne_of_lt (Heap.lt_size hol)
  have hn : its.toArray.size ≤ sizeLine := by rw [List.size_toArray, ← rv.length]; exact hz
  refine RT.call_list_rev (s := { s1 with heap := s1.heap.push (revObj a ((its.toArray.size : Int) - 1)) }) (I1.ok.hd hc) ⟨_, Heap.get?_push_size _ rfl, rfl, rfl⟩ (hl.push _) hne hn fun h' tk acc c' hk hS hi => ?_
  have hsz : s1.heap.objs.size ≤ (s1.heap.push (revObj a ((its.toArray.size : Int) - 1))).objs.size := by
    show s1.heap.objs.size ≤ (s1.heap.objs.push _).size
    rw [Array.size_push]
    exact Nat.le_succ _
  refine ⟨.ref (s1.heap.push (revObj a ((its.toArray.size : Int) - 1))).objs.size, upd H1 (s1.heap.push (revObj a ((its.toArray.size : Int) - 1))).objs.size (.lst xs.reverse), I1.laid (t' := tk) (fun b o e => hk b o (Nat.ne_of_lt (Heap.lt_size e)) (k0 b o e)) hsz
    (show ObjOk X.prog X.w _ _ _ (.lst xs.reverse) from ⟨by rw [List.length_reverse]; exact hz, acc.toList, c', RT.vals_rev rv hi, ?_⟩), rfl, q _ (I1.hok.fresh hsz)⟩
  rw [Array.toArray_toList]
  exact hS
theorem k_lstRev {K : PySem.W.Frag} {σ : L2.St} {H : Hp} {te : TE} {P : V → Hp → Prop} (h : EvK te σ H fun v Hx => ∃ (a : Addr) (xs : List V), v = .ref a ∧ SqL K Hx a xs ∧ ∀ q, Hx q = none → P (.ref q) (upd Hx q (.lst xs.reverse))) : EvK (tLstRev K te) σ H P := fun H1 e Q k =>
  h H1 e _ fun v H2 ⟨Hx, ex, a, xs, ev, hq, hp⟩ => ⟨a, xs, ev, ex_l ex hq, fun q nq => k _ _ ⟨_, Ex.updm ex, hp q (fresh_back ex nq)⟩⟩
end
end Px

set_option Elab.async false
set_option linter.all false
set_option maxRecDepth 100000
set_option maxHeartbeats 4000000
/-! Pq: more of the calculus: comprehensions told by a word, tuples cut and walked, except clauses one after the other. -/
namespace Px
open PySem PySem.Spec PyProof.Rows L2 Evl
theorem blkOk_rel {N : List Str} {outer inner : Scope} {env e0 : Env} {own : List (Str × Nat)} (hd : blkC N (relabel outer e0) inner own = true) (h : relabel outer env = relabel outer e0 := by rfl) : BlkOk N (relabel outer env) inner own := h ▸ blkOk_by hd
theorem boot_ValueError : bootBuiltins "ValueError" = some (.type "ValueError") := by decide +kernel
section
variable {K : PySem.W.Frag} {σ : L2.St} {H H' : Hp} {ta tb tc te tx : TE} {t u : TT} {x y z v : V} {r r' : R2} {P : V → Hp → Prop} {D : Ends} {s s2 w : TS}
theorem r_eqB {a b : Bool} (h : P (.bl (decide (a = b))) H) : RK rEq (.bl a) (.bl b) H P := r_eq ⟨rfl, by
  have e : decide (V.bl a = V.bl b) = decide (a = b) := by
    by_cases c : a = b
    · subst c
      rw [decide_eq_true rfl, decide_eq_true rfl]
    · rw [decide_eq_false c, decide_eq_false fun z => c (V.bl.inj z)]
  rw [e]
  exact h⟩
theorem r_neB {a b : Bool} (h : P (.bl (!decide (a = b))) H) : RK rNe (.bl a) (.bl b) H P := r_ne ⟨rfl, by
  have e : decide (V.bl a = V.bl b) = decide (a = b) := by
    by_cases c : a = b
    · subst c
      rw [decide_eq_true rfl, decide_eq_true rfl]
    · rw [decide_eq_false c, decide_eq_false fun z => c (V.bl.inj z)]
  rw [e]
  exact h⟩
theorem r_eqT {a b : Str} (h : P (.bl (decide (a = b))) H) : RK rEq (.str a) (.str b) H P := r_eq ⟨rfl, by
  have e : decide (V.str a = V.str b) = decide (a = b) := by
    by_cases c : a = b
    · subst c
      rw [decide_eq_true rfl, decide_eq_true rfl]
    · rw [decide_eq_false c, decide_eq_false fun z => c (V.str.inj z)]
  rw [e]
  exact h⟩
theorem r_neT {a b : Str} (h : P (.bl (!decide (a = b))) H) : RK rNe (.str a) (.str b) H P := r_ne ⟨rfl, by
  have e : decide (V.str a = V.str b) = decide (a = b) := by
    by_cases c : a = b
    · subst c
      rw [decide_eq_true rfl, decide_eq_true rfl]
    · rw [decide_eq_false c, decide_eq_false fun z => c (V.str.inj z)]
  rw [e]
  exact h⟩
theorem c_abs {i : Int} (hp : P (.int (if i < 0 then -i else i)) H) : CK (fun xs H Q => ∃ i, xs = [.int i] ∧ Q (.int (if i < 0 then -i else i)) H) [.int i] H P := fun H1 e Q k => ⟨i, rfl, k _ _ ⟨H, e, hp⟩⟩
theorem r_slT {p : Addr} {xs : List V} {lo hi : Option Int} (h : SqT K H p xs) (hw : ¬ (HT.sIx xs.length 0 lo = 0 ∧ HT.sIx xs.length xs.length hi = xs.length)) (hp : ∀ q, H q = none → P (.ref q) (upd H q (.tup (cutV xs lo hi)))) : Kc (rSlT K (.ref p) lo hi) H P := fun H1 e Q k => ⟨p, xs, rfl, ex_t e h, hw, fun q nq => k _ _ ⟨_, Ex.updm e, hp q (fresh_back e nq)⟩⟩
/-- over a tuple that is made on the way -/
theorem gs_forT {j : Nat} (h : EvK te σ H fun v Hx => ∃ (a : Addr) (xs : List V) (Pv : Nat → L2.St → Hp → Prop), v = .ref a ∧ SqT K Hx a xs ∧ Pv 0 σ Hx ∧ (∀ i σ' H', i ≤ xs.length → Pv i σ' H' → SqT K H' a xs) ∧
    (∀ i x σ' H', xs[i]? = some x → Pv i σ' H' → Go s { D with nx := Lp Pv (i + 1), ct := Lp Pv (i + 1), bk := w D } (σ'.set j (some x)) H') ∧ (∀ σ' H', Pv xs.length σ' H' → Go w D σ' H')) : Go (tSeq (tFor (iTup K te) (gName j) s) w) D σ H := fun H1 e =>
  h H1 e _ fun v H2 ⟨Hx, ex, a, xs, Pv, ev, hq, h0, hl, hs, hd⟩ => ⟨a, ev, ⟨xs, ex_t ex hq⟩, for_tup (D := { D with nx := w D }) (Lp Pv) ⟨Hx, ex, h0⟩ (fun i σ' H' hi ⟨Hy, ey, p⟩ => ex_t ey (hl i σ' Hy hi p)) (fun i x σ' H' hi ⟨Hy, ey, p⟩ => hs i x σ' Hy hi p H' ey) (fun σ' H' ⟨Hy, ey, p⟩ => hd σ' Hy p H' ey)⟩

theorem cut_fromN {xs : List V} {k : Nat} (h : k ≤ xs.length) : cutV xs (some (k : Int)) none = xs.drop k := by
  unfold cutV
  rw [show HT.sIx xs.length 0 (some (k : Int)) = min k xs.length from HT.sIx_nat xs.length 0 k, HT.sIx_none, Nat.min_eq_left h]
  exact List.take_of_length_le (by rw [List.length_drop]; omega)
theorem dp_two {h x y : Addr} {ns ms : List Int} (hh : SqL K H h [.ref x, .ref y]) (hx : SqL K H x (ns.map V.int)) (hy : SqL K H y (ms.map V.int)) : Dp K H (.ref h) (.list [.list (ns.map PyData.int), .list (ms.map PyData.int)]) := .lst hh (.cons (dp_ints hx) (.cons (dp_ints hy) .nil))
theorem sh_two (ns ms : List Int) : SeqAt.shaped (.list [.list (ns.map PyData.int), .list (ms.map PyData.int)]) = true := by
  show ((PyData.canLayAll0 (ns.map PyData.int) && (PyData.canLayAll0 (ms.map PyData.int) && true)) && decide (max (PyData.depthAll (ns.map PyData.int) + 1) (max (PyData.depthAll (ms.map PyData.int) + 1) 0) + 1 ≤ 64)) = true
  rw [lay_ints, lay_ints, dep_ints, dep_ints]
  rfl
/-! ### while: a word (Pv) of a measure that falls -/
def Lw (Pv : Nat → L2.St → Hp → Prop) (m : Nat) (σ : L2.St) (H : Hp) : Prop := ∃ m' Hx, m' < m ∧ Ex Hx H ∧ Pv m' σ Hx
theorem gs_while {t : TT} (Pv : Nat → L2.St → Hp → Prop) {m0 : Nat} (h0 : Pv m0 σ H) (ht : ∀ m σ' H', Pv m σ' H' → EvTK t σ' H' fun b Hx => (b = true → Go s { D with nx := Lw Pv m, ct := Lw Pv m, bk := w D } σ' Hx) ∧ (b = false → Go w D σ' Hx)) : Go (tSeq (tWhile t s) w) D σ H := fun H1 e =>
  ⟨fun m σ' H' => ∃ Hx, Ex Hx H' ∧ Pv m σ' Hx, ⟨m0, H, e, h0⟩, fun m σ' H' ⟨Hx, ex, p⟩ => ht m σ' Hx p H' ex _ fun b H2 ⟨Hy, ey, hT, hF⟩ => by
    cases b with
    | true =>
      rw [if_pos rfl]
      exact ⟨Lw Pv m, fun σ2 H3 ⟨m', Hz, hm, ez, pz⟩ => ⟨m', hm, Hz, ez, pz⟩, hT rfl H2 ey⟩
    | false =>
      rw [if_neg Bool.false_ne_true]
      exact hF rfl H2 ey⟩
/-! ### try -/
def tTry (tb : WX → TS) (W : Ends → WX) : TS := fun D σ H => tb (W D) D σ H
theorem gs_try {tb : WX → TS} {W : Ends → WX} (h : Go (tb (W { D with nx := w D })) { D with nx := w D } σ H) : Go (tSeq (tTry tb W) w) D σ H := h
theorem g1_try {tb : WX → TS} {W : Ends → WX} (h : Go (tb (W D)) D σ H) : Go (tTry tb W) D σ H := h
theorem ps_tryAs {X : Cx} {x n : Str} {c : Value} {i : Nat} {body suite : List Stmt} {b₀ : Stmt} {np pos pos' : Pos} {tb : WX → TS} {ts : Addr → Value → Option Addr → TS} {Wout : WX} (hs : X.stack = X.env :: X.outer) (hf : X.env.frame = some X.env.locals) (hN : X.N.Nodup) (hi : X.N[i]? = some n) (hln : X.env.kindOf n = some .local) (hc : Names X x c) (tk : Takes X Wout)
    (hb : ∀ (W : WX) (pn : List (Addr × Obj)) (xe : Value → Shared → Prop), Takes (X.tr pn xe) W → PassesOwn (model X.prog X.w) X.A X.env xe → PSs (X.tr pn xe) body (tb W))
    (hsu : ∀ (a : Addr) (oe : Obj) (cls : Value) (d : Option Addr) (pn : List (Addr × Obj)), Zc cls d oe → (∃ vs, oe.data = .fields vs) → PSs (X.suite a ((a, oe) :: pn)) (b₀ :: suite) (ts a cls d)) (hK : X.K = K := by rfl) :
    PS X (.Try body [.ExceptHandler (some (.Name x np)) (some n) (b₀ :: suite) pos'] [] [] pos) (tTry tb (wAs K c i ts Wout)) := by
  subst hK
  exact ps_try_as hs hf hN hi hln hc tk hb hsu
theorem ps_tryMany {X : Cx} {body : List Stmt} {h₀ : ExceptHandler} {hds : List ExceptHandler} {l : List (Value × (Addr → Value → Option Addr → TS))} {pos : Pos} {tb : WX → TS} {Wout : WX} (hs : X.stack = X.env :: X.outer) (hf : X.env.frame = some X.env.locals) (tk : Takes X Wout)
    (hb : ∀ (W : WX) (pn : List (Addr × Obj)) (xe : Value → Shared → Prop), Takes (X.tr pn xe) W → PassesOwn (model X.prog X.w) X.A X.env xe → PSs (X.tr pn xe) body (tb W))
    (hh : HdsOk X (h₀ :: hds) l) (hK : X.K = K := by rfl) : PS X (.Try body (h₀ :: hds) [] [] pos) (tTry tb (fun D => wMany K Wout D l)) := by
  subst hK
  exact ps_try_many hs hf tk hb hh
/-- the last assignment of a suite of 'except .. as n' (slot k) -/
theorem g1_asgA {i k : Nat} (h : EvK te σ H fun v Hx => Go w D ((σ.set i (some v)).set k none) Hx) : Go (tAsg te (gName i)) { nx := fun σ' H' => Ends.nx { D with nx := w D } (σ'.set k none) H', rt := Ends.rt { D with nx := w D }, bk := fun σ' H' => Ends.bk { D with nx := w D } (σ'.set k none) H', ct := fun σ' H' => Ends.ct { D with nx := w D } (σ'.set k none) H' } σ H := g1_asg h
/-! ### except clauses, one after the other -/
theorem ke_yes {c : Value} {ts : Addr → Value → Option Addr → TS} {Wout : WX} {l : List (Value × (Addr → Value → Option Addr → TS))} {cls : Value} {d : Option Addr} (he : PySem.W.exmOne K cls c = some true)
    (h : ∀ a, H a = none → Go (ts a cls d) D σ H) : KE (WE (wMany K Wout D ((c, ts) :: l)) σ) cls d H := fun H1 e => ⟨true, he, fun _ a na => h a (fresh_back e na) H1 e, fun q => Bool.noConfusion q⟩
theorem ke_no {c : Value} {ts : Addr → Value → Option Addr → TS} {Wout : WX} {l : List (Value × (Addr → Value → Option Addr → TS))} {cls : Value} {d : Option Addr} (he : PySem.W.exmOne K cls c = some false)
    (h : KE (WE (wMany K Wout D l) σ) cls d H) : KE (WE (wMany K Wout D ((c, ts) :: l)) σ) cls d H := fun H1 e => ⟨false, he, fun q => Bool.noConfusion q, fun _ => h H1 e⟩

/-! ### comprehensions told by a word: the list so far at D, the heap that matters -/
theorem k_lcW {g : TG} {tt : TT} {vs : List Nat} {tl : TE} (h : EvK tl σ H fun w Hx => ∃ (a : Addr) (xs : List V) (Pv : Addr → Nat → List V → Hp → Prop), w = .ref a ∧ xs.length ≤ 40000 ∧ SqL K Hx a xs ∧
      (∀ D, Hx D = none → Pv D 0 [] (upd Hx D (.lst []))) ∧ (∀ D i acc Hy, Hx D = none → Pv D i acc Hy → SqL K Hy a xs ∧ acc.length ≤ i ∧ Hy D = some (.lst acc)) ∧
      (∀ D i x acc Hy, Hx D = none → xs[i]? = some x → Pv D i acc Hy → GK g x (wipe σ vs) Hy fun σ2 H2 => wipe σ2 vs = wipe σ vs ∧ EvTK tt σ2 H2 fun b H3 => (b = true → EvK te σ2 H3 fun y H4 => H4 D = some (.lst acc) ∧ Pv D (i + 1) (acc ++ [y]) (upd H4 D (.lst (acc ++ [y])))) ∧ (b = false → Pv D (i + 1) acc H3)) ∧
      (∀ D acc Hy, Hx D = none → Pv D xs.length acc Hy → P (.ref D) Hy)) : EvK (tLc (iList K tl) g tt te vs) σ H P := fun H1 e Q k =>
  h H1 e _ fun w H2 ⟨Hx, ex, a, xs, Pv, ev, hn, hq, h0, hl, hs, hd⟩ => ⟨a, ev, ⟨xs, ex_l ex hq⟩, fun p np => by
    have npx : Hx p = none := fresh_back ex np
    refine lc_list (xs := xs) (fun i H' => ∃ acc Hy, Ex Hy H' ∧ Pv p i acc Hy) ⟨[], _, Ex.updm ex, h0 p npx⟩ (fun i H' _ ⟨acc, Hy, ey, q⟩ => ex_l ey (hl p i acc Hy npx q).1) (fun i x H' hi ⟨acc, Hy, ey, q⟩ => ?_) (fun H' ⟨acc, Hy, ey, q⟩ => k _ _ ⟨Hy, ey, hd p acc Hy npx q⟩)
    have hlt : i < xs.length := (List.getElem?_eq_some_iff.mp hi).1
    obtain ⟨_, hal, haD⟩ := hl p i acc Hy npx q
    refine hs p i x acc Hy npx hi q H' ey _ fun σ2 H3 ⟨Hz, ez, hw, ht⟩ => ⟨hw, ht H3 ez _ fun b H4 ⟨Hu, eu, hT, hF⟩ => ?_⟩
    cases b with
    | true =>
      rw [if_pos rfl]
      exact hT rfl H4 eu _ fun y H5 ⟨Hv, ev, hD, q5⟩ => ⟨acc, ev _ _ hD, sz_lt (by omega), acc ++ [y], _, Ex.updm ev, q5⟩
    | false =>
      rw [if_neg Bool.false_ne_true]
      exact ⟨acc, Hu, eu, hF rfl⟩⟩
theorem k_lcWR {g : TG} {tt : TT} {vs : List Nat} {tl : TA} (h : EvAK tl σ H fun ws Hx => ∃ (n : Int) (Pv : Addr → Nat → List V → Hp → Prop), ws = [.int n] ∧ n ≤ 40000 ∧ 0 ≤ n ∧
      (∀ D, Hx D = none → Pv D 0 [] (upd Hx D (.lst []))) ∧ (∀ D i acc Hy, Hx D = none → Pv D i acc Hy → acc.length ≤ i ∧ Hy D = some (.lst acc)) ∧
      (∀ D (i : Nat) acc Hy, Hx D = none → (i : Int) < n → Pv D i acc Hy → GK g (.int (i : Int)) (wipe σ vs) Hy fun σ2 H2 => wipe σ2 vs = wipe σ vs ∧ EvTK tt σ2 H2 fun b H3 => (b = true → EvK te σ2 H3 fun y H4 => H4 D = some (.lst acc) ∧ Pv D (i + 1) (acc ++ [y]) (upd H4 D (.lst (acc ++ [y])))) ∧ (b = false → Pv D (i + 1) acc H3)) ∧
      (∀ D acc Hy, Hx D = none → Pv D n.toNat acc Hy → P (.ref D) Hy)) : EvK (tLc (iRng1 tl) g tt te vs) σ H P := fun H1 e Q k =>
  h H1 e _ fun w H2 ⟨Hx, ex, n, Pv, ev, hn, hn0, h0, hl, hs, hd⟩ => ⟨n, ev, by omega, by omega, fun p np => by
    have npx : Hx p = none := fresh_back ex np
    refine lc_range (lo := 0) (n := n.toNat) (fun i H' => ∃ acc Hy, Ex Hy H' ∧ Pv p i acc Hy) ⟨[], _, Ex.updm ex, h0 p npx⟩ (fun i H' hi ⟨acc, Hy, ey, q⟩ => ?_) (fun H' ⟨acc, Hy, ey, q⟩ => k _ _ ⟨Hy, ey, hd p acc Hy npx q⟩)
    obtain ⟨hal, haD⟩ := hl p i acc Hy npx q
    have e0 : (0 : Int) + (i : Int) = (i : Int) := Int.zero_add _
    show g (.int ((0 : Int) + (i : Int))) (wipe σ vs) H' _
    rw [e0]
    refine hs p i acc Hy npx (by omega) q H' ey _ fun σ2 H3 ⟨Hz, ez, hw, ht⟩ => ⟨hw, ht H3 ez _ fun b H4 ⟨Hu, eu, hT, hF⟩ => ?_⟩
    cases b with
    | true =>
      rw [if_pos rfl]
      exact hT rfl H4 eu _ fun y H5 ⟨Hv, ev, hD, q5⟩ => ⟨acc, ev _ _ hD, sz_lt (by omega), acc ++ [y], _, Ex.updm ev, q5⟩
    | false =>
      rw [if_neg Bool.false_ne_true]
      exact ⟨acc, Hu, eu, hF rfl⟩⟩
/-- [e for x, y in zip(xs, ys)], the targets names -/
theorem k_lcZ {i j : Nat} {vs : List Nat} {tl : TA} (f : V → V → V) (h : EvAK tl σ H fun ws Hx => ∃ (a b : Addr) (xs ys : List V), ws = [.ref a, .ref b] ∧ xs.length ≤ 40000 ∧ xs.length = ys.length ∧ SqL K Hx a xs ∧ SqL K Hx b ys ∧
      (∀ x y, wipe (((wipe σ vs).set i (some x)).set j (some y)) vs = wipe σ vs) ∧
      (∀ (k : Nat) x y Hz, xs[k]? = some x → ys[k]? = some y → Ex Hx Hz → EvK te (((wipe σ vs).set i (some x)).set j (some y)) Hz fun v Hy => v = f x y ∧ Hy = Hz) ∧ ∀ p, Hx p = none → P (.ref p) (upd Hx p (.lst (List.zipWith f xs ys)))) :
    EvK (tLc (iZip K tl) (gTup K 2 (gCons (gName i) (gCons (gName j) gNil))) tYes te vs) σ H P := fun H1 e Q k =>
  h H1 e _ fun w H2 ⟨Hx, ex, a, b, xs, ys, ev, hn, hxy, hqx, hqy, hw, hs, hd⟩ => ⟨a, b, xs, ys, ev, ex_l ex hqx, ex_l ex hqy, fun p np => by
    have npx : Hx p = none := fresh_back ex np
    refine ⟨fun i m H' => m = xs.length - i ∧ i ≤ xs.length ∧ Ex (upd Hx p (.lst ((List.zipWith f xs ys).take i))) H', ⟨xs.length, rfl, Nat.zero_le _, Ex.updm ex⟩, ?_⟩
    rintro n m H' ⟨rfl, hin, hH⟩
    have qx : SqL K H' a xs := ex_l hH (ex_l (Ex.new npx) hqx)
    have qy : SqL K H' b ys := ex_l hH (ex_l (Ex.new npx) hqy)
    by_cases hlt : n < xs.length
    · have hx : xs[n]? = some xs[n] := List.getElem?_eq_getElem hlt
      have hlt2 : n < ys.length := by omega
      have hy : ys[n]? = some ys[n] := List.getElem?_eq_getElem hlt2
      refine .inr ⟨⟨xs, ys, _, _, qx, qy, hx, hy⟩, fun H'' => Ex (upd Hx p (.lst ((List.zipWith f xs ys).take (n + 1)))) H'', fun H'' p' => ⟨xs.length - (n + 1), by omega, rfl, hlt, p'⟩, fun v H'' yy => ?_⟩
      obtain ⟨T, x', y', rfl, hT, rfl, f1, f2⟩ := yy
      have gx := f1 xs qx
      have gy := f2 ys qy
      have hT2 : (upd Hx p (.lst ((List.zipWith f xs ys).take n))) T = none := fresh_back hH hT
      have ex2 : Ex (upd Hx p (.lst ((List.zipWith f xs ys).take n))) (upd H' T (.tup [x', y'])) := hH.trans (Ex.new hT)
      refine gk_tup2 (K := K) (H := upd H' T (.tup [x', y'])) (st_of upd_same) (gk_name (gk_name (R := fun σ2 H2 => wipe σ2 vs = wipe σ vs ∧ σ2 = ((wipe σ vs).set i (some x')).set j (some y') ∧ H2 = upd H' T (.tup [x', y'])) ⟨hw _ _, rfl, rfl⟩)) _ (Ex.refl _) _ ?_
      rintro σ2 H3 ⟨_, e3, hw2, rfl, rfl⟩
      refine ⟨hw2, ?_⟩
      show te _ H3 _
      refine hs n x' y' (upd Hx p (.lst ((List.zipWith f xs ys).take n))) gx gy (Ex.new npx) H3 (ex2.trans e3) _ ?_
      rintro v H4 ⟨Hy, ey, rfl, rfl⟩
      refine ⟨_, ey p _ upd_same, sz_lt (by rw [List.length_take, List.length_zipWith]; omega), ?_⟩
      have e5 : (List.zipWith f xs ys).take (n + 1) = (List.zipWith f xs ys).take n ++ [f x' y'] := by
        rw [List.take_succ]
        congr 1
        rw [List.getElem?_zipWith, gx, gy]
        rfl
      rw [e5]
      exact Ex.updm (fun c u q => by
        by_cases hc : c = p
        · subst hc
          rw [npx] at q
          cases q
        · exact ey c u (by rw [upd_ne hc]; exact q))
    · have e : n = xs.length := by omega
      subst e
      refine .inl ⟨⟨xs, ys, qx, qy, Or.inl (Nat.le_refl _)⟩, k _ _ ⟨_, hH, ?_⟩⟩
      rw [List.take_of_length_le (by rw [List.length_zipWith]; omega)]
      exact hd p npx⟩
/-! ### more of comprehensions and lists -/
theorem k_lcI {a : Addr} {ns : List Int} {j : Nat} {vs : List Nat} {tl : TE} (g : Int → Int) (h : EvK tl σ H fun w Hx => w = .ref a ∧ SqL K Hx a (ns.map V.int) ∧ ns.length ≤ 40000 ∧ (∀ x, wipe ((wipe σ vs).set j (some x)) vs = wipe σ vs) ∧ (∀ z Hz, z ∈ ns → Ex Hx Hz → EvK te ((wipe σ vs).set j (some (.int z))) Hz fun v Hy => v = .int (g z) ∧ Hy = Hz) ∧ ∀ p, Hx p = none → P (.ref p) (upd Hx p (.lst ((ns.map g).map V.int)))) :
    EvK (tLc (iList K tl) (gName j) tYes te vs) σ H P := k_lcL (a := a) (xs := ns.map V.int) (fun _ v => match v with | .int z => .int (g z) | v => v) (h.imp fun w Hx ⟨h1, h2, h3, h4, h5, h6⟩ => ⟨h1, h2, by rw [List.length_map]; exact h3, h4, fun i x Hz hx ez => by
      rw [List.getElem?_map] at hx
      cases e : ns[i]? with
      | none => rw [e] at hx; cases hx
      | some z =>
        rw [e] at hx
        have ex := Option.some.inj hx
        subst ex
        exact h5 z Hz (List.mem_of_getElem? e) ez, fun p np => by
      have e : (ns.map V.int).mapIdx (fun _ v => match v with | .int z => V.int (g z) | v => v) = (ns.map g).map V.int := by
        apply List.ext_getElem?
        intro i
        rw [List.getElem?_mapIdx, List.getElem?_map, List.getElem?_map, List.getElem?_map]
        cases ns[i]? <;> rfl
      rw [e]
      exact h6 p np⟩)
theorem r_rep {l : Addr} {xs : List V} {n : Nat} (h : H l = some (.lst xs)) (hz : xs.length * n ≤ 100000) (hn : n ≤ 100000) (hp : ∀ p, H p = none → P (.ref p) (upd H p (.lst (List.replicate n xs).flatten))) : RK rRep (.ref l) (.int (n : Int)) H P := fun H1 e Q k =>
  ⟨l, (n : Int), xs, rfl, rfl, e _ _ h, by omega, by omega, by rw [Int.toNat_natCast]; exact sz_of hz, fun p np => by
    rw [Int.toNat_natCast]
    exact k _ _ ⟨_, Ex.updm e, hp p (fresh_back e np)⟩⟩
theorem rep_int (n : Nat) (z : Int) : (List.replicate n [V.int z]).flatten = (List.replicate n z).map V.int := by
  rw [List.flatten_replicate_singleton, List.map_replicate]
theorem k_lstRg (h : EvK ta σ H fun x Hx => ∃ n : Nat, x = .int (n : Int) ∧ n ≤ 100000 ∧ ∀ q, Hx q = none → P (.ref q) (upd Hx q (.lst (((List.range n).map fun (i : Nat) => (i : Int)).map V.int)))) : EvK (tLstRg (tRg1 ta)) σ H P := fun H1 e Q k =>
  h H1 e _ fun x H2 ⟨Hx, ex, n, ev, hn, hp⟩ => ⟨(n : Int), ev, RgOk.of_le (by omega) (by omega) (by omega) (by omega), fun q nq => by
    have e5 : rgV 0 (n : Int) = ((List.range n).map fun (i : Nat) => (i : Int)).map V.int := by
      unfold rgV
      rw [Int.sub_zero, Int.toNat_natCast, List.map_map]
      refine List.map_congr_left fun i _ => ?_
      show V.int ((0 : Int) + (i : Int)) = V.int (i : Int)
      rw [Int.zero_add]
    rw [e5]
    exact k _ _ ⟨_, Ex.updm ex, hp q (fresh_back ex nq)⟩⟩
end
end Px

set_option Elab.async false
set_option linter.all false
set_option maxRecDepth 100000
set_option maxHeartbeats 400000
/-! Pw: plain mathematics of two rows: gaps and dues. -/
namespace Pw
open Pm
def Alike (ns ms : List Int) : Prop := ns.length = ms.length ∧ ns.sum = ms.sum
theorem Alike.symm {ns ms : List Int} (h : Alike ns ms) : Alike ms ns := ⟨h.1.symm, h.2.symm⟩
theorem Alike.of_perm {ns ms : List Int} (h : ns.Perm ms) : Alike ns ms := ⟨h.length_eq, perm_sum h⟩
/-- what the k fullest hold -/
def top (ns : List Int) (k : Nat) : Int := ((sd ns).take k).sum
theorem top_zero (ns : List Int) : top ns 0 = 0 := rfl
theorem top_all {ns : List Int} {k : Nat} (h : ns.length ≤ k) : top ns k = ns.sum := by
  unfold top
  rw [List.take_of_length_le (by rw [sd_len]; exact h)]
  exact perm_sum (sd_perm ns)
theorem top_succ {ns : List Int} {k : Nat} {x : Int} (h : (sd ns)[k]? = some x) : top ns (k + 1) = top ns k + x := sum_take h
theorem top_at {ns : List Int} {k : Nat} (h : k ≤ ns.length) : (tops ns)[k]? = some (top ns k) := tops_at h
def GapIs (ns ms : List Int) : Option Nat → Prop
  | none => ∀ k, k ≤ ns.length → top ms k ≤ top ns k
  | some k => k ≤ ns.length ∧ top ns k < top ms k ∧ ∀ j, j < k → top ms j ≤ top ns j
theorem GapIs.uniq {ns ms : List Int} : ∀ {o o' : Option Nat}, GapIs ns ms o → GapIs ns ms o' → o = o'
  | none, none, _, _ => rfl
  | none, some k, h, h' => by
    have h1 := h k h'.1
    have h2 := h'.2.1
    omega
  | some k, none, h, h' => by
    have h1 := h' k h.1
    have h2 := h.2.1
    omega
  | some k, some k', h, h' => by
    congr 1
    rcases Nat.lt_trichotomy k k' with c | c | c
    · have h1 := h'.2.2 k c
      have h2 := h.2.1
      omega
    · exact c
    · have h1 := h.2.2 k' c
      have h2 := h'.2.1
      omega
def oV : Option Nat → L2.V
  | none => .non
  | some k => .int (k : Int)
def dz (h g : Int) : Int := if h - g > 0 then h - g else 0
def dues (ns ms : List Int) : Int := (List.zipWith dz (sd ns) (sd ms)).sum
theorem dz_self (x : Int) : dz x x = 0 := by
  unfold dz
  rw [if_neg (by omega)]
theorem zip_self : ∀ l : List Int, (List.zipWith dz l l).sum = 0
  | [] => rfl
  | x :: l => by
    rw [List.zipWith_cons_cons, List.sum_cons, zip_self l, dz_self]
    rfl
theorem dues_perm {ns ms : List Int} (h : ns.Perm ms) : dues ns ms = 0 := by
  unfold dues
  rw [sd_of_perm h]
  exact zip_self _
theorem zip_at {a b : List Int} {i : Nat} {x y : Int} (hx : a[i]? = some x) (hy : b[i]? = some y) : (List.zipWith dz a b)[i]? = some (dz x y) := by
  rw [List.getElem?_zipWith, hx, hy]
theorem gap_level {ns : List Int} {o : Option Nat} (h : GapIs ns (level ns.length ns.sum) o) : o = none := by
  refine h.uniq (o' := none) fun k hk => ?_
  exact tops_level_le (tops_at (by rw [level_len]; exact hk)) (tops_at hk)
theorem odd_unlike {ns ms : List Int} {k : Nat} {b : Int} (h : Alike ns ms) (hb : b = 0 ∨ b = 1) (hk : k < ms.length) : ¬ Alike ns (ms.take k ++ [ms.getD k 0 + 1 - 2 * b] ++ ms.drop (k + 1)) := fun h2 => by
  have h3 := h.2
  have h4 := h2.2
  have h5 : ms.sum = (ms.take k).sum + ms.getD k 0 + (ms.drop (k + 1)).sum := by
    conv => lhs; rw [← List.take_append_drop k ms]
    rw [List.sum_append, List.drop_eq_getElem_cons hk, List.sum_cons, List.getD_eq_getElem?_getD, List.getElem?_eq_getElem hk, Option.getD_some]
    omega
  rw [List.sum_append, List.sum_append] at h4
  simp only [List.sum_cons, List.sum_nil] at h4
  omega
end Pw

set_option Elab.async false
set_option linter.all false
set_option maxRecDepth 100000
set_option maxHeartbeats 400000
/-! Pv: plain mathematics of way: few gifts from one row to the numbers of another. -/
namespace Pv
open Pm Pg Pw
def zs (f : Int → Int → Int) (A B : List Int) : Int := (List.zipWith f A B).sum
theorem zs_set (f : Int → Int → Int) : ∀ (A B : List Int) (i : Nat) (x : Int), A.length = B.length → i < A.length → zs f (A.set i x) B = zs f A B - f (A.getD i 0) (B.getD i 0) + f x (B.getD i 0)
  | [], _, _, _, _, h => by cases h
  | _ :: _, [], _, _, h, _ => by cases h
  | a :: A, b :: B, 0, x, _, _ => by
    show zs f (x :: A) (b :: B) = zs f (a :: A) (b :: B) - f a b + f x b
    unfold zs
    rw [List.zipWith_cons_cons, List.zipWith_cons_cons, List.sum_cons, List.sum_cons]
    omega
  | a :: A, b :: B, i + 1, x, hl, h => by
    have ih := zs_set f A B i x (by simpa using hl) (by simpa using h)
    show zs f (a :: A.set i x) (b :: B) = zs f (a :: A) (b :: B) - f (A.getD i 0) (B.getD i 0) + f x (B.getD i 0)
    unfold zs at ih ⊢
    rw [List.zipWith_cons_cons, List.zipWith_cons_cons, List.sum_cons, List.sum_cons, ih]
    omega
theorem zs_nonneg (f : Int → Int → Int) (hf : ∀ a b, 0 ≤ f a b) : ∀ (A B : List Int), 0 ≤ zs f A B
  | [], _ => by simp [zs]
  | _ :: _, [] => by simp [zs]
  | a :: A, b :: B => by
    have ih := zs_nonneg f hf A B
    have := hf a b
    unfold zs at ih ⊢
    rw [List.zipWith_cons_cons, List.sum_cons]
    omega
def uq (a b : Int) : Int := if a = b then 0 else 1
theorem uq_nn (a b : Int) : 0 ≤ uq a b := by unfold uq; split <;> decide
theorem zs_uq_le : ∀ (A B : List Int), zs uq A B ≤ (A.length : Int)
  | [], _ => by simp [zs]
  | _ :: _, [] => by simp [zs]; omega
  | a :: A, b :: B => by
    have ih := zs_uq_le A B
    have h : uq a b ≤ 1 := by unfold uq; split <;> decide
    unfold zs at ih ⊢
    rw [List.zipWith_cons_cons, List.sum_cons, List.length_cons]
    omega
/-- held A, goals B: the goals sorted, never more together -/
structure Wy (A B : List Int) : Prop where
  len : A.length = B.length
  srt : B.Pairwise (· ≥ ·)
  pre : ∀ k, k ≤ B.length → (B.take k).sum ≤ (A.take k).sum
  tot : A.sum = B.sum
def LastAb (A B : List Int) : Option Nat → Prop
  | none => ∀ i, i < A.length → A.getD i 0 ≤ B.getD i 0
  | some r => r < A.length ∧ B.getD r 0 < A.getD r 0 ∧ ∀ i, r < i → i < A.length → A.getD i 0 ≤ B.getD i 0
structure Low (A B : List Int) (r l : Nat) : Prop where
  gt : r < l
  lt : l < A.length
  less : A.getD l 0 < B.getD l 0
  none : ∀ i, r < i → i < l → B.getD i 0 ≤ A.getD i 0
theorem sum_le_of : ∀ {A B : List Int}, A.length = B.length → (∀ i, i < A.length → A.getD i 0 ≤ B.getD i 0) → A.sum ≤ B.sum
  | [], [], _, _ => Int.le_refl _
  | [], _ :: _, h, _ => by cases h
  | _ :: _, [], h, _ => by cases h
  | a :: A, b :: B, h, k => by
    have h0 := k 0 (by simp)
    have ih := sum_le_of (A := A) (B := B) (by simpa using h) fun i hi => k (i + 1) (by simpa using hi)
    rw [List.sum_cons, List.sum_cons]
    have h0' : a ≤ b := h0
    omega
theorem eq_of_le : ∀ {A B : List Int}, A.length = B.length → (∀ i, i < A.length → A.getD i 0 ≤ B.getD i 0) → A.sum = B.sum → A = B
  | [], [], _, _, _ => rfl
  | [], _ :: _, h, _, _ => by cases h
  | _ :: _, [], h, _, _ => by cases h
  | a :: A, b :: B, h, k, e => by
    have h0 : a ≤ b := k 0 (by simp)
    have hl : A.length = B.length := by simpa using h
    have hk : ∀ i, i < A.length → A.getD i 0 ≤ B.getD i 0 := fun i hi => k (i + 1) (by simpa using hi)
    have h1 := sum_le_of hl hk
    rw [List.sum_cons, List.sum_cons] at e
    have e1 : a = b := by omega
    rw [eq_of_le hl hk (by omega), e1]
theorem sum_split (A : List Int) (k : Nat) : A.sum = (A.take k).sum + (A.drop k).sum := by
  conv => lhs; rw [← List.take_append_drop k A]
  rw [List.sum_append]
theorem getD_drop (A : List Int) (k i : Nat) : (A.drop k).getD i 0 = A.getD (k + i) 0 := by
  rw [List.getD_eq_getElem?_getD, List.getElem?_drop, List.getD_eq_getElem?_getD]
theorem take_succ_sum {A : List Int} {k : Nat} (h : k < A.length) : (A.take (k + 1)).sum = (A.take k).sum + A.getD k 0 := sum_take (getD_at h)
/-- some rank behind the last one above is below -/
theorem Wy.low {A B : List Int} {h : Nat} (W : Wy A B) (hh : h < A.length) (hab : B.getD h 0 < A.getD h 0) : ∃ i, h < i ∧ i < A.length ∧ A.getD i 0 < B.getD i 0 := by
  by_cases c : ∃ i, h < i ∧ i < A.length ∧ A.getD i 0 < B.getD i 0
  · exact c
  · exfalso
    have hl := W.len
    have h1 := W.pre h (by omega)
    have h2 := take_succ_sum hh
    have h3 := take_succ_sum (A := B) (k := h) (by omega)
    have h4 := sum_split A (h + 1)
    have h5 := sum_split B (h + 1)
    have h6 := W.tot
    have h7 : (B.drop (h + 1)).sum ≤ (A.drop (h + 1)).sum := sum_le_of (by rw [List.length_drop, List.length_drop, hl]) fun i hi => by
      rw [List.length_drop] at hi
      rw [getD_drop, getD_drop]
      by_cases c2 : A.getD (h + 1 + i) 0 < B.getD (h + 1 + i) 0
      · exact absurd ⟨h + 1 + i, by omega, by omega, c2⟩ c
      · omega
    omega
theorem first_low {A B : List Int} {h : Nat} (e : ∃ i, h < i ∧ i < A.length ∧ A.getD i 0 < B.getD i 0) : ∃ l, Low A B h l := by
  obtain ⟨i, h1, h2, h3⟩ := e
  induction i using Nat.strongRecOn with
  | _ i ih =>
    by_cases c : ∃ j, h < j ∧ j < i ∧ A.getD j 0 < B.getD j 0
    · obtain ⟨j, j1, j2, j3⟩ := c
      exact ih j j2 j1 (by omega) j3
    · exact ⟨i, h1, h2, h3, fun j j1 j2 => by
        by_cases c2 : A.getD j 0 < B.getD j 0
        · exact absurd ⟨j, j1, j2, c2⟩ c
        · omega⟩
theorem Low.uniq {A B : List Int} {h l l' : Nat} (a : Low A B h l) (b : Low A B h l') : l = l' := by
  rcases Nat.lt_trichotomy l l' with c | c | c
  · have := b.none l a.gt c
    have := a.less
    omega
  · exact c
  · have := a.none l' b.gt c
    have := b.less
    omega
theorem LastAb.uniq {A B : List Int} : ∀ {o o' : Option Nat}, LastAb A B o → LastAb A B o' → o = o'
  | none, none, _, _ => rfl
  | none, some r, a, b => by
    have := a r b.1
    have := b.2.1
    omega
  | some r, none, a, b => by
    have := b r a.1
    have := a.2.1
    omega
  | some r, some r', a, b => by
    congr 1
    rcases Nat.lt_trichotomy r r' with c | c | c
    · have := a.2.2 r' c b.1
      have := b.2.1
      omega
    · exact c
    · have := b.2.2 r c a.1
      have := a.2.1
      omega
def amt (A B : List Int) (h l : Nat) : Int := if B.getD l 0 - A.getD l 0 < A.getD h 0 - B.getD h 0 then B.getD l 0 - A.getD l 0 else A.getD h 0 - B.getD h 0
def nxt (A B : List Int) (h l : Nat) : List Int := (A.set h (A.getD h 0 - amt A B h l)).set l (A.getD l 0 + amt A B h l)
theorem take_set_sum {A : List Int} {i k : Nat} {x : Int} (hi : i < A.length) : ((A.set i x).take k).sum = (A.take k).sum + if i < k then x - A.getD i 0 else 0 := by
  rw [List.take_set]
  by_cases c : i < k
  · rw [if_pos c]
    have h := msum_set (fun y => y) (A.take k) i x (by rw [List.length_take]; omega)
    have e : (A.take k).getD i 0 = A.getD i 0 := by
      rw [List.getD_eq_getElem?_getD, List.getElem?_take_of_lt c, List.getD_eq_getElem?_getD]
    rw [e] at h
    have h' : ((A.take k).set i x).sum = (A.take k).sum - A.getD i 0 + x := by simpa using h
    omega
  · rw [if_neg c, List.set_eq_of_length_le (by rw [List.length_take]; omega), Int.add_zero]
structure Turn (A B : List Int) (h l : Nat) : Prop where
  a1 : 1 ≤ amt A B h l
  fit : amt A B h l ≤ A.getD h 0 - A.getD l 0
  wy : Wy (nxt A B h l) B
  due : zs dz (nxt A B h l) B = zs dz A B - amt A B h l
  cnt : zs uq (nxt A B h l) B ≤ zs uq A B - 1
  two : 2 ≤ zs uq A B
theorem turn {A B : List Int} {h l : Nat} (W : Wy A B) (hh : LastAb A B (some h)) (hl : Low A B h l) : Turn A B h l := by
  obtain ⟨h1, h2, h3⟩ := hh
  have hlen := W.len
  have g1 := hl.gt
  have g2 := hl.lt
  have g3 := hl.less
  have hB : B.getD l 0 ≤ B.getD h 0 := sorted_at W.srt g1 (getD_at (by omega)) (getD_at (by omega))
  have ha : 1 ≤ amt A B h l ∧ amt A B h l ≤ A.getD h 0 - B.getD h 0 ∧ amt A B h l ≤ B.getD l 0 - A.getD l 0 ∧ (amt A B h l = A.getD h 0 - B.getD h 0 ∨ amt A B h l = B.getD l 0 - A.getD l 0) := by
    unfold amt
    split <;> omega
  have hAl : (A.set h (A.getD h 0 - amt A B h l)).getD l 0 = A.getD l 0 := getD_set_ne (by omega)
  have hn : (nxt A B h l).length = A.length := by unfold nxt; rw [List.length_set, List.length_set]
  obtain ⟨a1, a2, a3, a4⟩ := ha
  have zz : ∀ f : Int → Int → Int, zs f (nxt A B h l) B = zs f A B - f (A.getD h 0) (B.getD h 0) + f (A.getD h 0 - amt A B h l) (B.getD h 0) - f (A.getD l 0) (B.getD l 0) + f (A.getD l 0 + amt A B h l) (B.getD l 0) := fun f => by
    unfold nxt
    rw [zs_set f _ B l _ (by rw [List.length_set]; exact hlen) (by rw [List.length_set]; exact g2), zs_set f A B h _ hlen h1, hAl]
  -- the ranks between hold just their goals
  have mid : ∀ k, h < k → k ≤ l → (A.take k).sum - (B.take k).sum ≥ A.getD h 0 - B.getD h 0 := fun k => by
    induction k with
    | zero => intro c; omega
    | succ k ih =>
      intro c1 c2
      have e1 := take_succ_sum (A := A) (k := k) (by omega)
      have e2 := take_succ_sum (A := B) (k := k) (by omega)
      by_cases c : k = h
      · subst c
        have := W.pre k (by omega)
        omega
      · have i1 := ih (by omega) (by omega)
        have i2 := hl.none k (by omega) (by omega)
        omega
  refine ⟨a1, by omega, ⟨hn.trans hlen, W.srt, fun k hk => ?_, ?_⟩, ?_, ?_, ?_⟩
  · have hp := W.pre k hk
    unfold nxt
    rw [take_set_sum (by rw [List.length_set]; exact g2), take_set_sum h1, hAl]
    by_cases c1 : h < k
    · rw [if_pos c1]
      by_cases c2 : l < k
      · rw [if_pos c2]
        omega
      · rw [if_neg c2]
        have := mid k c1 (by omega)
        omega
    · rw [if_neg c1, if_neg (by omega)]
      omega
  · have e := take_set_sum (A := A.set h (A.getD h 0 - amt A B h l)) (i := l) (k := A.length) (x := A.getD l 0 + amt A B h l) (by rw [List.length_set]; exact g2)
    have e2 := take_set_sum (A := A) (i := h) (k := A.length) (x := A.getD h 0 - amt A B h l) h1
    rw [if_pos g2, hAl] at e
    rw [if_pos h1] at e2
    rw [List.take_of_length_le (by rw [List.length_set, List.length_set]; omega)] at e
    rw [List.take_length] at e2
    have := W.tot
    show ((A.set h _).set l _).sum = _
    omega
  · rw [zz dz]
    unfold dz
    rw [if_pos (by omega), if_neg (show ¬ A.getD l 0 - B.getD l 0 > 0 by omega), if_neg (show ¬ A.getD l 0 + amt A B h l - B.getD l 0 > 0 by omega)]
    split <;> omega
  · rw [zz uq]
    unfold uq
    rw [if_neg (show ¬ A.getD h 0 = B.getD h 0 by omega), if_neg (show ¬ A.getD l 0 = B.getD l 0 by omega)]
    rcases a4 with e | e
    · rw [if_pos (show A.getD h 0 - amt A B h l = B.getD h 0 by omega)]
      split <;> omega
    · rw [if_pos (show A.getD l 0 + amt A B h l = B.getD l 0 by omega)]
      split <;> omega
  · have e1 := zs_set uq A B h (B.getD h 0) hlen h1
    have e2 := zs_set uq (A.set h (B.getD h 0)) B l (B.getD l 0) (by rw [List.length_set]; exact hlen) (by rw [List.length_set]; exact g2)
    have e3 := zs_nonneg uq uq_nn ((A.set h (B.getD h 0)).set l (B.getD l 0)) B
    rw [getD_set_ne (by omega)] at e2
    unfold uq at e1 e2 e3 ⊢
    rw [if_neg (show ¬ A.getD h 0 = B.getD h 0 by omega), if_pos rfl] at e1
    rw [if_neg (show ¬ A.getD l 0 = B.getD l 0 by omega), if_pos rfl] at e2
    omega
/-- nothing is above any more -/
theorem wy_end {A B : List Int} (W : Wy A B) (h : LastAb A B none) : A = B := eq_of_le W.len h W.tot
theorem wy_start {ns ms : List Int} (al : Alike ns ms) (g : GapIs ns ms none) : Wy (sd ns) (sd ms) := ⟨by rw [sd_len, sd_len, al.1], sd_sorted ms, fun k hk => by
  rw [sd_len] at hk
  exact g k (by rw [al.1]; exact hk), by rw [perm_sum (sd_perm ns), perm_sum (sd_perm ms), al.2]⟩
theorem dz_none {A B : List Int} (e : A = B) : zs dz A B = 0 := by
  subst e
  exact zip_self A
/-! ### the row behind the gifts -/
/-- what the ranks hold, the row cur, rank i at place is_i -/
def atP (is : List Int) (cur : List Int) : List Int := is.map fun j => cur.getD j.toNat 0
structure IsPl (is : List Int) (n : Nat) : Prop where
  perm : is.Perm ((List.range n).map fun (i : Nat) => (i : Int))
theorem IsPl.len {is : List Int} {n : Nat} (h : IsPl is n) : is.length = n := by rw [h.perm.length_eq, List.length_map, List.length_range]
theorem IsPl.mem {is : List Int} {n : Nat} (h : IsPl is n) {j : Int} (hj : j ∈ is) : 0 ≤ j ∧ j < (n : Int) := by
  obtain ⟨i, hi, rfl⟩ := List.mem_map.mp (h.perm.mem_iff.mp hj)
  have := List.mem_range.mp hi
  omega
theorem IsPl.nodup {is : List Int} {n : Nat} (h : IsPl is n) : is.Nodup := by
  refine h.perm.nodup_iff.mpr ?_
  exact List.pairwise_map.mpr (List.nodup_range.imp fun h e => h (by omega))
theorem IsPl.inj {is : List Int} {n : Nat} (h : IsPl is n) {i j : Nat} {x : Int} (hi : is[i]? = some x) (hj : is[j]? = some x) : i = j := by
  obtain ⟨h1, e1⟩ := List.getElem?_eq_some_iff.mp hi
  obtain ⟨h2, e2⟩ := List.getElem?_eq_some_iff.mp hj
  have pw := List.pairwise_iff_getElem.mp h.nodup
  rcases Nat.lt_trichotomy i j with c | c | c
  · exact absurd (e1.trans e2.symm) (pw i j h1 h2 c)
  · exact c
  · exact absurd (e2.trans e1.symm) (pw j i h2 h1 c)
theorem atP_perm {is cur : List Int} {n : Nat} (h : IsPl is n) (hc : cur.length = n) : (atP is cur).Perm cur := by
  have p := h.perm.map fun j : Int => cur.getD j.toNat 0
  have e : ((List.range n).map fun (i : Nat) => (i : Int)).map (fun j : Int => cur.getD j.toNat 0) = cur := by
    rw [List.map_map, ← hc]
    have := range_getD cur (fun x => x)
    rw [List.map_id'] at this
    exact this
  rw [e] at p
  exact p
theorem atP_at {is cur : List Int} {i : Nat} {x : Int} (h : is[i]? = some x) : (atP is cur).getD i 0 = cur.getD x.toNat 0 := by
  unfold atP
  rw [List.getD_eq_getElem?_getD, List.getElem?_map, h]
  rfl
theorem atP_done {is cur : List Int} {n h l : Nat} {x y a : Int} (P : IsPl is n) (hc : cur.length = n) (hx : is[h]? = some x) (hy : is[l]? = some y) (hne : h ≠ l) :
    atP is (done cur x y a) = ((atP is cur).set h ((atP is cur).getD h 0 - a)).set l ((atP is cur).getD l 0 + a) := by
  have bx := P.mem (List.mem_of_getElem? hx)
  have bY := P.mem (List.mem_of_getElem? hy)
  apply List.ext_getElem?
  intro i
  by_cases hi : i < is.length
  · obtain ⟨z, hz⟩ : ∃ z, is[i]? = some z := ⟨_, List.getElem?_eq_getElem hi⟩
    have bz := P.mem (List.mem_of_getElem? hz)
    have e1 : (atP is (done cur x y a))[i]? = some ((done cur x y a).getD z.toNat 0) := by
      unfold atP
      rw [List.getElem?_map, hz]
      rfl
    rw [e1, atP_at hx, atP_at hy]
    unfold done
    have hlA : (atP is cur).length = is.length := by unfold atP; rw [List.length_map]
    by_cases c1 : i = l
    · subst c1
      rw [hy] at hz
      obtain rfl := Option.some.inj hz
      rw [List.getElem?_set_self (by rw [List.length_set, hlA]; exact hi), List.getD_eq_getElem?_getD (l := List.set _ _ _), List.getElem?_set_self (by rw [List.length_set]; omega)]
      rfl
    · have nzy : y.toNat ≠ z.toNat := fun e => c1 (P.inj (x := z) hz (by rw [show z = y by omega]; exact hy))
      rw [List.getElem?_set_ne (Ne.symm c1), getD_set_ne nzy]
      by_cases c2 : i = h
      · subst c2
        rw [hx] at hz
        obtain rfl := Option.some.inj hz
        rw [List.getElem?_set_self (by rw [hlA]; exact hi), List.getD_eq_getElem?_getD (l := List.set _ _ _), List.getElem?_set_self (by omega)]
        rfl
      · have nzx : x.toNat ≠ z.toNat := fun e => c2 (P.inj (x := z) hz (by rw [show z = x by omega]; exact hx))
        rw [List.getElem?_set_ne (Ne.symm c2), getD_set_ne nzx]
        unfold atP
        rw [List.getElem?_map, hz]
        rfl
  · have hlA : (atP is cur).length = is.length := by unfold atP; rw [List.length_map]
    rw [List.getElem?_eq_none (by unfold atP; rw [List.length_map]; omega), List.getElem?_eq_none (by rw [List.length_set, List.length_set, hlA]; omega)]
def amounts (Gs : List Gift) : Int := (Gs.map fun z => z.2.2).sum
theorem amounts_snoc (Gs : List Gift) (z : Gift) : amounts (Gs ++ [z]) = amounts Gs + z.2.2 := by
  unfold amounts
  rw [List.map_append, List.sum_append]
  simp
/-- what way tells -/
structure Leads (ns ms : List Int) (Gs : List Gift) : Prop where
  walk : ∃ cur, walk ns Gs = some cur ∧ cur.Perm ms
  few : (Gs.length : Int) ≤ max 0 ((ns.length : Int) - 1)
  am : amounts Gs = dues ns ms
/-- under way: held A -/
structure Wst (ns ms is A : List Int) (Gs : List Gift) : Prop where
  wy : Wy A (sd ms)
  pl : IsPl is ns.length
  row : ∃ cur, walk ns Gs = some cur ∧ A = atP is cur
  due : amounts Gs + zs dz A (sd ms) = dues ns ms
  few : (Gs.length : Int) + max (zs uq A (sd ms)) 1 ≤ max (ns.length : Int) 1
theorem wst_start {ns ms is : List Int} (al : Alike ns ms) (g : GapIs ns ms none) (pl : IsPl is ns.length) (hp : is.Pairwise fun i j => ns.getD j.toNat 0 ≤ ns.getD i.toNat 0) : Wst ns ms is (atP is ns) [] ∧ atP is ns = sd ns := by
  have e : atP is ns = sd ns := sd_uniq (atP_perm pl rfl) (by
    unfold atP
    rw [List.pairwise_map]
    exact hp)
  refine ⟨⟨by rw [e]; exact wy_start al g, pl, ⟨ns, rfl, rfl⟩, by rw [e]; exact Int.zero_add _, ?_⟩, e⟩
  have h := zs_uq_le (atP is ns) (sd ms)
  rw [show (atP is ns).length = ns.length by unfold atP; rw [List.length_map, pl.len]] at h
  show (0 : Int) + _ ≤ _
  omega
theorem Wst.len {ns ms is A : List Int} {Gs : List Gift} (S : Wst ns ms is A Gs) : A.length = ns.length := by
  obtain ⟨cur, _, e⟩ := S.row
  rw [e]
  unfold atP
  rw [List.length_map, S.pl.len]
theorem Wst.next {ns ms is A : List Int} {Gs : List Gift} {h l : Nat} {x y : Int} (S : Wst ns ms is A Gs) (hh : LastAb A (sd ms) (some h)) (hl : Low A (sd ms) h l) (hx : is[h]? = some x) (hy : is[l]? = some y) :
    Wst ns ms is (nxt A (sd ms) h l) (Gs ++ [(x, y, amt A (sd ms) h l)]) := by
  have t := turn S.wy hh hl
  have hA := S.len
  obtain ⟨cur, hw, e⟩ := S.row
  have hcl := walk_len hw
  have bx := S.pl.mem (List.mem_of_getElem? hx)
  have bY := S.pl.mem (List.mem_of_getElem? hy)
  have e1 : A.getD h 0 = cur.getD x.toNat 0 := by rw [e]; exact atP_at hx
  have e2 : A.getD l 0 = cur.getD y.toNat 0 := by rw [e]; exact atP_at hy
  have tf := t.fit
  rw [e1, e2] at tf
  have f : Fits cur x y (amt A (sd ms) h l) := ⟨t.a1, bx.1, by rw [hcl]; exact bx.2, bY.1, by rw [hcl]; exact bY.2, tf⟩
  have tc := t.cnt
  have t2 := t.two
  have hf := S.few
  have hd := S.due
  have td := t.due
  refine ⟨t.wy, S.pl, ⟨done cur x y (amt A (sd ms) h l), walk_snoc hw f, ?_⟩, ?_, ?_⟩
  · rw [atP_done S.pl hcl hx hy (by have := hl.gt; omega), ← e]
    rfl
  · rw [amounts_snoc]
    dsimp only
    omega
  · rw [List.length_append]
    show ((Gs.length + 1 : Nat) : Int) + _ ≤ _
    omega
theorem Wst.end {ns ms is A : List Int} {Gs : List Gift} (S : Wst ns ms is A Gs) (h : LastAb A (sd ms) none) : Leads ns ms Gs := by
  have e := wy_end S.wy h
  obtain ⟨cur, hw, ea⟩ := S.row
  have hf := S.few
  have hd := S.due
  rw [dz_none e, Int.add_zero] at hd
  refine ⟨⟨cur, hw, ?_⟩, by omega, hd⟩
  have p := (atP_perm S.pl (walk_len hw)).symm
  rw [← ea, e] at p
  exact p.trans (sd_perm ms)
end Pv

set_option Elab.async false
set_option linter.all false
set_option maxRecDepth 100000
set_option maxHeartbeats 400000
/-! Pd: plain mathematics of dues: not more than is handed on, no longer by a third row; walks. -/
namespace Pd
open Pm Pg Pw Pv
def ins (x : Int) : List Int → List Int
  | [] => [x]
  | s :: S => if s ≤ x then x :: s :: S else s :: ins x S
theorem ins_perm (x : Int) : ∀ S : List Int, (ins x S).Perm (x :: S)
  | [] => List.Perm.refl _
  | s :: S => by
    unfold ins
    split
    · exact List.Perm.refl _
    · exact ((ins_perm x S).cons s).trans (List.Perm.swap x s S)
theorem ins_sorted (x : Int) : ∀ {S : List Int}, S.Pairwise (· ≥ ·) → (ins x S).Pairwise (· ≥ ·)
  | [], _ => List.pairwise_singleton _ _
  | s :: S, h => by
    have h1 := List.pairwise_cons.mp h
    unfold ins
    split
    · rename_i c
      refine List.pairwise_cons.mpr ⟨fun y hy => ?_, h⟩
      rcases List.mem_cons.mp hy with e | e
      · subst e
        exact c
      · have := h1.1 y e
        show y ≤ x
        have : y ≤ s := this
        omega
    · rename_i c
      refine List.pairwise_cons.mpr ⟨fun y hy => ?_, ins_sorted x h1.2⟩
      rcases List.mem_cons.mp ((ins_perm x S).mem_iff.mp hy) with e | e
      · subst e
        show y ≤ s
        omega
      · exact h1.1 y e
theorem sd_cons (x : Int) (R : List Int) : sd (x :: R) = ins x (sd R) := (sd_uniq ((ins_perm x _).trans ((sd_perm R).cons x)) (ins_sorted x (sd_sorted R))).symm
def ple : List Int → List Int → Prop
  | [], [] => True
  | a :: A, b :: B => a ≤ b ∧ ple A B
  | _, _ => False
theorem ple_refl : ∀ A : List Int, ple A A
  | [] => True.intro
  | a :: A => ⟨Int.le_refl a, ple_refl A⟩
theorem ins_le_cons {x : Int} : ∀ {S : List Int} {s : Int}, x ≤ s → (s :: S).Pairwise (· ≥ ·) → ple (ins x S) (s :: S)
  | [], s, h, _ => ⟨h, True.intro⟩
  | t :: S, s, h, p => by
    have h1 := List.pairwise_cons.mp p
    have hts : t ≤ s := h1.1 t List.mem_cons_self
    unfold ins
    split
    · exact ⟨h, ple_refl _⟩
    · exact ⟨hts, ins_le_cons (by omega) h1.2⟩
theorem ins_mono {x y : Int} (h : x ≤ y) : ∀ {S : List Int}, S.Pairwise (· ≥ ·) → ple (ins x S) (ins y S)
  | [], _ => ⟨h, True.intro⟩
  | s :: S, p => by
    have h1 := List.pairwise_cons.mp p
    by_cases c1 : s ≤ x
    · unfold ins
      rw [if_pos c1, if_pos (by omega)]
      exact ⟨h, ple_refl _⟩
    · by_cases c2 : s ≤ y
      · have e1 : ins x (s :: S) = s :: ins x S := by
          show (if s ≤ x then x :: s :: S else s :: ins x S) = _
          rw [if_neg c1]
        have e2 : ins y (s :: S) = y :: s :: S := by
          show (if s ≤ y then y :: s :: S else s :: ins y S) = _
          rw [if_pos c2]
        rw [e1, e2]
        exact ⟨c2, ins_le_cons (by omega) p⟩
      · have e1 : ins x (s :: S) = s :: ins x S := by
          show (if s ≤ x then x :: s :: S else s :: ins x S) = _
          rw [if_neg c1]
        have e2 : ins y (s :: S) = s :: ins y S := by
          show (if s ≤ y then y :: s :: S else s :: ins y S) = _
          rw [if_neg c2]
        rw [e1, e2]
        exact ⟨Int.le_refl s, ins_mono h h1.2⟩
theorem zs_ple : ∀ {A B : List Int}, ple A B → zs dz A B = 0
  | [], [], _ => rfl
  | a :: A, b :: B, h => by
    have ih := zs_ple h.2
    unfold zs at ih ⊢
    rw [List.zipWith_cons_cons, List.sum_cons, ih]
    unfold dz
    rw [if_neg (by have := h.1; omega)]
    rfl
  | [], _ :: _, h => h.elim
  | _ :: _, [], h => h.elim
theorem zs_pge : ∀ {A B : List Int}, ple B A → zs dz A B = A.sum - B.sum
  | [], [], _ => rfl
  | a :: A, b :: B, h => by
    have ih := zs_pge h.2
    unfold zs at ih ⊢
    rw [List.zipWith_cons_cons, List.sum_cons, List.sum_cons, List.sum_cons, ih]
    have := h.1
    unfold dz
    split <;> omega
  | [], _ :: _, h => h.elim
  | _ :: _, [], h => h.elim
theorem dues_zs (ns ms : List Int) : dues ns ms = zs dz (sd ns) (sd ms) := rfl
theorem dues_congr {a b c d : List Int} (h : a.Perm b) (k : c.Perm d) : dues a c = dues b d := by
  unfold dues
  rw [sd_of_perm h, sd_of_perm k]
theorem dues_one (x y : Int) (R : List Int) : dues (x :: R) (y :: R) ≤ dz x y := by
  rw [dues_zs, sd_cons, sd_cons]
  rcases Int.le_total x y with h | h
  · rw [zs_ple (ins_mono h (sd_sorted R))]
    unfold dz
    split <;> omega
  · rw [zs_pge (ins_mono h (sd_sorted R)), perm_sum (ins_perm x _), perm_sum (ins_perm y _), List.sum_cons, List.sum_cons]
    unfold dz
    split <;> omega
theorem zs_tri : ∀ {A B C : List Int}, A.length = B.length → B.length = C.length → zs dz A C ≤ zs dz A B + zs dz B C
  | [], [], [], _, _ => Int.le_refl _
  | a :: A, b :: B, c :: C, h, k => by
    have ih := zs_tri (A := A) (B := B) (C := C) (by simpa using h) (by simpa using k)
    unfold zs at ih ⊢
    rw [List.zipWith_cons_cons, List.zipWith_cons_cons, List.zipWith_cons_cons, List.sum_cons, List.sum_cons, List.sum_cons]
    have : dz a c ≤ dz a b + dz b c := by
      unfold dz
      split <;> split <;> split <;> omega
    omega
  | [], _ :: _, _, h, _ => by cases h
  | _ :: _, [], _, h, _ => by cases h
  | [], [], _ :: _, _, h => by cases h
  | _ :: _, _ :: _, [], _, h => by cases h
theorem dues_tri {a b c : List Int} (h : a.length = b.length) (k : b.length = c.length) : dues a c ≤ dues a b + dues b c := zs_tri (by rw [sd_len, sd_len, h]) (by rw [sd_len, sd_len, k])
theorem dues_self (a : List Int) : dues a a = 0 := dues_perm (List.Perm.refl a)
theorem set_perm {l : List Int} {i : Nat} (h : i < l.length) (y : Int) : l.Perm (l.getD i 0 :: (l.take i ++ l.drop (i + 1))) ∧ (l.set i y).Perm (y :: (l.take i ++ l.drop (i + 1))) := by
  constructor
  · have e : l = l.take i ++ l.getD i 0 :: l.drop (i + 1) := by
      conv => lhs; rw [← List.take_append_drop i l]
      congr 1
      rw [List.drop_eq_getElem_cons h, List.getD_eq_getElem?_getD, List.getElem?_eq_getElem h]
      rfl
    conv => lhs; rw [e]
    exact List.perm_middle
  · rw [List.set_eq_take_append_cons_drop, if_pos h]
    exact List.perm_middle
theorem dues_set {l : List Int} {i : Nat} (h : i < l.length) (y : Int) : dues l (l.set i y) ≤ dz (l.getD i 0) y := by
  obtain ⟨p1, p2⟩ := set_perm h y
  rw [dues_congr p1 p2]
  exact dues_one _ _ _
theorem dues_done {ns : List Int} {g t d : Int} (f : Fits ns g t d) : dues ns (done ns g t d) ≤ d := by
  have g0 := f.g0
  have gn := f.gn
  have t0 := f.t0
  have tn := f.tn
  have d1 := f.d1
  have h1 := dues_set (l := ns) (i := g.toNat) (by omega) (ns.getD g.toNat 0 - d)
  have h2 := dues_set (l := ns.set g.toNat (ns.getD g.toNat 0 - d)) (i := t.toNat) (by rw [List.length_set]; omega) (ns.getD t.toNat 0 + d)
  rw [getD_set_ne f.ne] at h2
  have h3 := dues_tri (a := ns) (b := ns.set g.toNat (ns.getD g.toNat 0 - d)) (c := done ns g t d) (by rw [List.length_set]) (by rw [List.length_set, done_len])
  have e1 : dz (ns.getD g.toNat 0) (ns.getD g.toNat 0 - d) = d := by
    unfold dz
    rw [if_pos (by omega)]
    omega
  have e2 : dz (ns.getD t.toNat 0) (ns.getD t.toNat 0 + d) = 0 := by
    unfold dz
    rw [if_neg (by omega)]
  rw [e1] at h1
  rw [e2] at h2
  have h4 : dues (ns.set g.toNat (ns.getD g.toNat 0 - d)) (done ns g t d) ≤ 0 := h2
  omega
/-- the walk of a list of gifts, turn by turn -/
theorem walk_at {ns cur : List Int} {Gs : List Gift} (h : walk ns Gs = some cur) {i : Nat} {z : Gift} (hz : Gs[i]? = some z) : ∃ ci, walk ns (Gs.take i) = some ci ∧ Fits ci z.1 z.2.1 z.2.2 := by
  have e : Gs = Gs.take i ++ z :: Gs.drop (i + 1) := by
    obtain ⟨h1, rfl⟩ := List.getElem?_eq_some_iff.mp hz
    rw [← List.drop_eq_getElem_cons h1, List.take_append_drop]
  rw [e, walk_app] at h
  cases hw : walk ns (Gs.take i) with
  | none =>
    rw [hw] at h
    cases h
  | some ci =>
    refine ⟨ci, rfl, ?_⟩
    rw [hw] at h
    by_cases f : Fits ci z.1 z.2.1 z.2.2
    · exact f
    · have hb : walk ci (z :: Gs.drop (i + 1)) = none := walk_bad f
      have h' : walk ci (z :: Gs.drop (i + 1)) = some cur := h
      rw [hb] at h'
      cases h'
/-- a step of the rows -/
def Step (ns ms : List Int) (a : Int) : Prop := (ms = ns ∧ a = 0) ∨ ∃ g t, Fits ns g t a ∧ ms = done ns g t a
theorem Step.le {ns ms : List Int} {a : Int} (h : Step ns ms a) : Le ms ns ∧ ms.sum = ns.sum ∧ ms.length = ns.length ∧ dues ns ms ≤ a := by
  rcases h with ⟨rfl, rfl⟩ | ⟨g, t, f, rfl⟩
  · exact ⟨Le.refl _, rfl, rfl, by rw [dues_self]; exact Int.le_refl _⟩
  · exact ⟨le_done f, sum_done f, done_len _ _ _ _, dues_done f⟩
theorem gap_le {ns ms : List Int} (h : Le ms ns) : GapIs ns ms none := fun k hk => h.tops hk
/-- rows and amounts, each row behind the one ahead -/
structure Rows (Ls : List (List Int)) (As : List Int) : Prop where
  len : As.length = Ls.length
  step : ∀ (i : Nat) l m a, Ls[i]? = some l → Ls[i + 1]? = some m → As[i + 1]? = some a → Step l m a
  nn : ∀ a ∈ As, 0 ≤ a
/-- what lies between two rows -/
theorem Rows.between {Ls : List (List Int)} {As : List Int} (R : Rows Ls As) {i : Nat} {l : List Int} (hi : Ls[i]? = some l) : ∀ (j : Nat) m, i ≤ j → Ls[j]? = some m → Le m l ∧ m.sum = l.sum ∧ m.length = l.length ∧ dues l m ≤ ((As.take (j + 1)).drop (i + 1)).sum := by
  intro j
  induction j with
  | zero =>
    intro m h hj
    obtain rfl : i = 0 := by omega
    rw [hi] at hj
    obtain rfl := Option.some.inj hj
    refine ⟨Le.refl _, rfl, rfl, ?_⟩
    rw [dues_self, List.drop_of_length_le (by rw [List.length_take]; omega)]
    exact Int.le_refl _
  | succ j ih =>
    intro m h hj
    by_cases c : i = j + 1
    · subst c
      rw [hi] at hj
      obtain rfl := Option.some.inj hj
      refine ⟨Le.refl _, rfl, rfl, ?_⟩
      rw [dues_self, List.drop_of_length_le (by rw [List.length_take]; omega)]
      exact Int.le_refl _
    · have hlt := (List.getElem?_eq_some_iff.mp hj).1
      have hlen := R.len
      obtain ⟨m0, hm0⟩ : ∃ m0, Ls[j]? = some m0 := ⟨_, List.getElem?_eq_getElem (by omega)⟩
      obtain ⟨a, ha⟩ : ∃ a, As[j + 1]? = some a := ⟨_, List.getElem?_eq_getElem (by omega)⟩
      obtain ⟨i1, i2, i3, i4⟩ := ih m0 (by omega) hm0
      obtain ⟨s1, s2, s3, s4⟩ := (R.step j m0 m a hm0 hj ha).le
      refine ⟨s1.trans i1, s2.trans i2, s3.trans i3, ?_⟩
      have ht := dues_tri (a := l) (b := m0) (c := m) i3.symm s3.symm
      have e : ((As.take (j + 1 + 1)).drop (i + 1)).sum = ((As.take (j + 1)).drop (i + 1)).sum + a := by
        rw [take_more ha, List.drop_append_of_le_length (by rw [List.length_take]; omega), List.sum_append]
        simp
      omega
theorem dues_asym {ns ms : List Int} (al : Alike ns ms) : True := True.intro
/-- the way back -/
theorem gap_back {a b : List Int} (h : Le a b) (e : a.length = b.length) : (∀ k x y, (∀ j, j < k → (sd a)[j]? = (sd b)[j]?) → (sd a)[k]? = some x → (sd b)[k]? = some y → x ≠ y → GapIs a b (some (k + 1))) ∧ ((∀ j : Nat, (sd a)[j]? = (sd b)[j]?) → GapIs a b none) := by
  have same : ∀ k, (∀ j, j < k → (sd a)[j]? = (sd b)[j]?) → ∀ i, i ≤ k → top a i = top b i := fun k hk i hi => by
    unfold top
    have e2 : (sd a).take i = (sd b).take i := by
      apply List.ext_getElem?
      intro j
      by_cases c : j < i
      · rw [List.getElem?_take_of_lt c, List.getElem?_take_of_lt c]
        exact hk j (by omega)
      · rw [List.getElem?_take_eq_none (by omega), List.getElem?_take_eq_none (by omega)]
    rw [e2]
  constructor
  · intro k x y hk hx hy hne
    have hlt := (List.getElem?_eq_some_iff.mp hx).1
    rw [sd_len] at hlt
    have s1 := same k hk k (Nat.le_refl _)
    have t1 := top_succ hx
    have t2 := top_succ hy
    have hle : top a (k + 1) ≤ top b (k + 1) := h.tops (by omega)
    refine ⟨by omega, by omega, fun j hj => ?_⟩
    have := same k hk j (by omega)
    omega
  · intro hall k hk
    have := same a.length (fun j _ => hall j) k hk
    omega
end Pd

set_option Elab.async false
set_option linter.all false
set_option maxRecDepth 100000
set_option maxHeartbeats 400000
/-! Pl: sorted(range(n), key=lambda x: o[x], reverse=True), o captured. -/
namespace Pl
open PySem PySem.Spec PyProof.Rows L2 LamX PySem.W
section
variable {prog : Program} {w : World} {A : Around} {E : Value → Shared → Prop} {s : Shared}
/-- the lambda's call -/
theorem lam_item {f c' cc a : Addr} {q x o : Str} {params : Arguments} {scope : Scope} {cl : List (Str × Addr)} {pm ctv : Value} {p1 p2 p3 : Pos} {items : Array Value} {i : Int} {t : Tok} {y : Value} {Q : Value → Shared → Prop}
    (hd : A.depth < recursionLimit) (hf : s.heap.get? f = some (kla_obj "<lambda>" q params (.Subscript (.Name o p1) (.Name x p2) p3) scope cl pm c' ctv))
    (hbind : bindArgs (kla_fn "<lambda>" q params (.Subscript (.Name o p1) (.Name x p2) p3) scope cl pm (.ref c') ctv) ⟨[.int i t], []⟩ = pure [(x, .int i t)])
    (hk : scope.kind = .function) (hco : scope.isCoroutine = false) (hge : scope.isGenerator = false) (hnc : ∀ y ∈ scope.names, y.2 ≠ .cell) (hx : scope.names.lookup x = some .local) (ho : scope.names.lookup o = some .free)
    (hdx : (x == ("__debug__" : Str)) = false) (hdo : (o == ("__debug__" : Str)) = false) (hcdo : (o == ("__classdict__" : Str)) = false)
    (hrec : s.heap.CodeRec (.ref c') q) (hlim : s.heap.NoLimit) (hcl : cl.lookup o = some cc) (hcell : s.heap.IsCell cc (some (.ref a))) (hl : s.heap.IsList a items) (h0 : 0 ≤ i) (h1 : i < 2 ^ 62) (hy : items[i.toNat]? = some y)
    (h : ∀ h' tk, (∀ b u, s.heap.get? b = some u → h'.get? b = some u) → Q y { s with heap := h', toks := tk }) : wpAny (model prog w) A (call (.ref f) [.int i t]) Q (fun _ _ => False) s := by
  refine wpAny_call (kla_callFunE hd hf rfl hco hge rfl hrec ?_)
  rw [hbind]
  refine wpAny_pure (wpAny_newFunctionEnv hnc (fun y hy => by rw [List.mem_singleton.mp hy]; exact hx) (fun h₁ hns hsb => ⟨hlim.fresh _ hsb, ?_⟩) hk)
  show codeAny _ _ (.expr _ _) _ _
  have kp : ∀ b u, s.heap.get? b = some u → h₁.get? b = some u := fun b u e => hsb.extBut b u (Nat.ne_of_lt (Heap.lt_size e)) (Heap.get?_push_of_some _ e)
  have cell1 : h₁.IsCell cc (some (.ref a)) := by
    obtain ⟨oc, e1, e2⟩ := hcell
    exact ⟨oc, kp _ _ e1, e2⟩
  have list1 : h₁.IsList a items := by
    obtain ⟨oc, e1, e2⟩ := hl
    exact ⟨oc, kp _ _ e1, e2⟩
  refine kla_codeExpr ?_
  refine Subscript_ (wpAny_Name (wpAny_loadName_free hk ho hcl cell1 ?_ hcdo) hdo)
  refine wpAny_Name (wpAny_loadName_local hk hx hns (v := .int i t) ?_ ?_) hdx
  · show List.lookup x ([(x, Value.int i t)].reverse) = _
    simp
  exact item_listR list1 h0 (by omega) hy (h h₁ _ kp) rfl
theorem ints_of_each : ∀ {vs : List Value} {is : List Int}, EachIs (fun (v : Value) (i : Int) => ∃ t, v = .int i t) vs is → IntsAre vs is
  | _, _, .nil => .nil
  | _, _, .cons ⟨t, e⟩ r => by
    subst e
    exact .cons _ t (ints_of_each r)
/-- sorted(r, key=f, reverse=True), r a range of n -/
theorem sorted_range {r f : Addr} {tu tv tw : Tok} {n : Nat} {ks : List Int} {Q : Value → Shared → Prop} (hh : A.handled = none) (hu : A.units + 64 < cLine) (hr : IsRange s.heap r 0 (n : Int) 1 tu tv tw) (hn : n ≤ 100000) (hkl : ks.length = n)
    (turn : ∀ (i : Nat) (t : Tok) (k : Int) (h : Heap) (tk : Nat), i < n → ks[i]? = some k → (∀ b o, s.heap.get? b = some o → h.get? b = some o) →
      wpAny (model prog w) A.in1.in1 (call (.ref f) [.int (i : Int) t]) (KeyPure (.int k) { s with heap := h, toks := tk }) (fun _ _ => False) { s with heap := h, toks := tk })
    (h : ∀ (is : List Int) (out : List Value) (c : Nat) (h1 h' : Heap) (tk : Nat), (∀ b o, s.heap.get? b = some o → h1.get? b = some o) → (∀ b o, h1.get? b = some o → h'.get? b = some o) → h'.get? h1.objs.size = some (seqObj "list" (List.toArray out) c) → IntsAre out is → is.Perm ((List.range n).map fun (i : Nat) => (i : Int)) → is.Pairwise (fun i j => ks.getD j.toNat 0 ≤ ks.getD i.toNat 0) →
      Q (.ref h1.objs.size) { s with heap := h', toks := tk }) :
    wpAny (model prog w) A (call (.builtin "sorted") [.ref r] [(Str.ofString "key", .ref f), (Str.ofString "reverse", .bool true)]) Q E s := by
  refine call_function_entry_kw kind_sorted plain_sorted entry_sorted (ksk_s2 _ _ _) ?_
  unfold Builtin.«sorted»
  refine wpAny_bind (m := checkCount "sorted" 1 1 _) (wpAny_pure ?_)
  refine wpAny_bind (collect_range (n := n) (A := A.in1) hh hr (small_one (by decide) (by decide) (by omega) (by omega)) (by rw [rangeSize_nat]; omega) (by omega) fun h1 tk1 acc kp1 hi => ?_)
  have hacc : acc.toList.length = n := by rw [Array.length_toList]; exact hi.1
  refine wpAny_bind (wpAny_newList ?_ (by rw [hacc, sizeLine_eq]; omega))
  have hS : (h1.push (seqObj "list" acc.toList.toArray 0)).get? h1.objs.size = some (seqObj "list" acc.toList.toArray 0) := Heap.get?_push_size _ rfl
  have kp2 : ∀ b o, s.heap.get? b = some o → (h1.push (seqObj "list" acc.toList.toArray 0)).get? b = some o := fun b o e => Heap.get?_push_of_some _ (kp1 b o e)
  have neS : ∀ b o, s.heap.get? b = some o → b ≠ h1.objs.size := fun b o e => Nat.ne_of_lt (Heap.lt_size (kp1 b o e))
  refine wpAny_bind (wpAny_holding (wpAny_call_entry_kw slot_list_sort ⟨_, hS, rfl⟩ entry_list_sort ?body (ksk_l2 _ _ _)))
  case body =>
    show wpAny (model prog w) A.in1.in1 (Builtin.«list.sort» ⟨[.ref h1.objs.size], [(Str.ofString "key", .ref f), (Str.ofString "reverse", .bool true)]⟩) _ _ _
    rw [ksk_t2]
    have eR : EachIs (fun (v : Value) (i : Int) => ∃ t, v = .int i t) acc.toList ((List.range n).map fun (i : Nat) => (i : Int)) := by
      refine EachIs.of_zip (by rw [hacc, List.length_map, List.length_range]) fun p hp => ?_
      obtain ⟨i, hi2⟩ := List.mem_iff_getElem?.mp hp
      rw [List.getElem?_zip_eq_some] at hi2
      obtain ⟨e1, e2⟩ := hi2
      rw [Array.getElem?_toList] at e1
      obtain ⟨t, ht⟩ := hi.2 i p.1 e1
      have hin : i < n := by
        have := (List.getElem?_eq_some_iff.mp e2).1
        rw [List.length_map, List.length_range] at this
        exact this
      rw [List.getElem?_map, List.getElem?_range hin] at e2
      have e3 : ((i : Nat) : Int) = p.2 := Option.some.inj e2
      exact ⟨t, by rw [ht, ← e3]; congr 1; omega⟩
    refine keyH_tree (s := { s with heap := h1.push (seqObj "list" acc.toList.toArray 0), toks := tk1 }) (kz := ((List.range n).map fun (i : Nat) => (i : Int)).map fun i => PyData.int (ks.getD i.toNat 0)) hS (by rw [List.length_map, List.length_map, List.length_range, hacc]) (by rw [hacc, sizeLine_eq]; omega) (fun d hd d' hd' => ?_) (.inr fun d hd => ?_) (fun d hd => ?_) (keyH_turns (h₁ := h1.push (seqObj "list" acc.toList.toArray 0)) (s := { s with heap := h1.push (seqObj "list" acc.toList.toArray 0), toks := tk1 }) eR fun v x hR hx h tk kp => ?_) fun h' tk out c kp hD ko => ⟨.none, rfl, wpAny_pure ⟨_, rfl, ?_⟩⟩
    · obtain ⟨i, _, rfl⟩ := List.mem_map.mp hd
      obtain ⟨i', _, rfl⟩ := List.mem_map.mp hd'
      rfl
    · obtain ⟨i, _, rfl⟩ := List.mem_map.mp hd
      exact ⟨fun z => (by cases z), fun xs z => (by cases z)⟩
    · obtain ⟨i, _, rfl⟩ := List.mem_map.mp hd
      show A.units + 1 + 1 + 0 < cLine
      omega
    · obtain ⟨t, rfl⟩ := hR
      obtain ⟨i, hin, rfl⟩ := List.mem_map.mp hx
      have hin2 := List.mem_range.mp hin
      refine wpAny_mono (turn i t (ks.getD i 0) h tk hin2 ?_ fun b o e => kp b o (neS b o e) (kp2 b o e)) (fun v s2 hv => hv) fun _ _ z => z
      rw [List.getD_eq_getElem?_getD, List.getElem?_eq_getElem (by omega)]
      rfl
    · have hke := keyedOut_each (fun i : Int => PyData.int (ks.getD i.toNat 0)) ko eR
      rw [dataGe_int fun i : Int => ks.getD i.toNat 0] at hke
      refine h (((List.range n).map fun (i : Nat) => (i : Int)).mergeSort fun a b => decide (ks.getD b.toNat 0 ≤ ks.getD a.toNat 0)) out c h1 h' tk kp1 (fun b o e => kp b o (Nat.ne_of_lt (Heap.lt_size e)) (Heap.get?_push_of_some _ e)) hD (ints_of_each hke) (List.mergeSort_perm _ _) ?_
      have hp := List.pairwise_mergeSort (le := fun a b : Int => decide (ks.getD b.toNat 0 ≤ ks.getD a.toNat 0)) (fun a b c h1 h2 => by
        have := of_decide_eq_true h1
        have := of_decide_eq_true h2
        exact decide_eq_true (by omega)) (fun a b => by
        rcases Int.le_total (ks.getD b.toNat 0) (ks.getD a.toNat 0) with z | z
        · rw [decide_eq_true z]; rfl
        · rw [decide_eq_true z, Bool.or_true]) ((List.range n).map fun (i : Nat) => (i : Int))
      exact hp.imp fun h => of_decide_eq_true h
end
end Pl
namespace Pl
open PySem PySem.Spec PyProof.Rows L2 LamX PySem.W
theorem sq_extN {K : PySem.W.Frag} {H H' : Hp} {a : Addr} {xs : List V} (h : SqL K H a xs) (e : ExtN H H') : SqL K H' a xs := by
  rcases h with h | h
  · rcases h with h | ⟨o, h⟩
    · exact .inl (.inl (e _ _ h fun ps z => by cases z))
    · exact .inl (.inr ⟨o, e _ _ h fun ps z => by cases z⟩)
  · exact .inr h
/-- sorted(range(n), key=lambda x: o[x], reverse=True), slot i the captured o -/
def tSortLam (K : PySem.W.Frag) (T : List (Addr × Str)) (i : Nat) (te : TE) : TE := fun σ H Q => te σ H fun v H1 => ∃ (n : Nat) (x : Addr) (ks : List Int), v = .int (n : Int) ∧ n ≤ 100000 ∧ ks.length = n ∧ σ[i]? = some (some (.ref x)) ∧ SqL K H1 x (ks.map V.int) ∧ Tabs T H1 ∧
  ∀ H2, ExtN H1 H2 → Tabs T H2 → ∀ (is : List Int) q, is.Perm ((List.range n).map fun (i : Nat) => (i : Int)) → is.Pairwise (fun i j => ks.getD j.toNat 0 ≤ ks.getD i.toNat 0) → H2 q = none → Q (.ref q) (upd H2 q (.lst (is.map V.int)))
section
variable {X : Cx}
theorem pe_sortLam {K : PySem.W.Frag} {T : List (Addr × Str)} {c P : Addr} {e : Expr} {te : TE} {x o : Str} {i k j : Nat} {params : Arguments} {scope : Scope} {p p2 pos pos2 p3 p4 p5 lpos kp1 kp2 bp : Pos}
    (hr : Room k X.A) (hc : X.calm = true) (hg : Gl X "sorted") (hm : X.mg "sorted" = none) (hg2 : Gl X "range") (hm2 : X.mg "range" = none) (he : PE X e te)
    (TB : TabB X.base X.mg c P) (hcode : X.env.code = .ref c) (hmT : (P, X.env.qual ++ "<lambda>") ∈ T) (hu : ∀ p ∈ T, p.1 = P → p.2 = X.env.qual ++ "<lambda>") (hdef : defaultsOf params X.env = ([], []))
    (hbind : ∀ (q : Str) (cl : List (Str × Addr)) (pm cv ctv v : Value), bindArgs (kla_fn "<lambda>" q params (.Subscript (.Name o p3) (.Name x p4) p5) scope cl pm cv ctv) ⟨[v], []⟩ = pure [(x, v)])
    (hk : scope.kind = .function) (hco : scope.isCoroutine = false) (hge : scope.isGenerator = false) (hnc : ∀ y ∈ scope.names, y.2 ≠ .cell) (hx : scope.names.lookup x = some .local) (ho : scope.names.lookup o = some .free)
    (hfree : ∀ y ∈ scope.names, y.2 = .free → y.1 = o) (hoc : X.env.scope.names.lookup o = some .cell) (hoN : X.N[i]? = some o)
    (hdx : (x == ("__debug__" : Str)) = false) (hdo : (o == ("__debug__" : Str)) = false) (hcdo : (o == ("__classdict__" : Str)) = false) (hK : X.K = K := by rfl)
    (hs : starEach [e] X.env = (false, eval e X.env) :: starEach [] X.env := by rfl)
    (h1 : backTo pos (starEach [.Call (.Name "range" p2) [e] [] pos2] X.env) = (false, eval (.Call (.Name "range" p2) [e] [] pos2) X.env) :: backTo pos (starEach [] X.env) := by rfl)
    (h2 : (backTo pos (starEach [.Call (.Name "range" p2) [e] [] pos2] X.env)).any (·.1) = false := by rfl)
    (h3 : (backToKw pos (keywordEach [⟨some "key", .Lambda params (.Subscript (.Name o p3) (.Name x p4) p5) scope lpos, kp1⟩, ⟨some "reverse", .Constant (.bool true) j bp, kp2⟩] X.env)).all (·.1.isSome) = true := by rfl)
    (h4 : (backToKw pos (keywordEach [⟨some "key", .Lambda params (.Subscript (.Name o p3) (.Name x p4) p5) scope lpos, kp1⟩, ⟨some "reverse", .Constant (.bool true) j bp, kp2⟩] X.env)).any (·.1.isNone) = false := by rfl) :
    PE X (.Call (.Name "sorted" p) [.Call (.Name "range" p2) [e] [] pos2] [⟨some "key", .Lambda params (.Subscript (.Name o p3) (.Name x p4) p5) scope lpos, kp1⟩, ⟨some "reverse", .Constant (.bool true) j bp, kp2⟩] pos) (tSortLam K T i te) := by
  subst hK
  refine ⟨fun pins s σ H Q I h => ?_⟩
  refine wpAny_Call_Name_kw (ld_blt I hg hm boot_sorted ?_)
  refine PyProof.Rows.callWith_kw ?_ h1 h2 h3 h4
  rw [h1]
  refine Calls.spliced_cons ?_
  refine Call_ (ld_blt I hg2 hm2 boot_range (PyProof.Rows.callWith_type1 (args_cons (thn (he.run pins s σ H _ I h) fun u s1 ⟨v, H1, I1, r1, q1⟩ => args_nil ?_) hs) hs rfl))
  obtain ⟨n, xa, ks, ev, hn, hkl, hσ, hq, hT, q⟩ := q1
  subst ev
  obtain ⟨t, rfl⟩ := r1
  refine call_range_1 ?_
  refine Calls.spliced_nil ?_
  generalize hro : ({ cls := .type "range", data := .fields #[.int 0 s1.toks, .int (n : Int) t, .int 1 (s1.toks + 1)] } : Obj) = ro
  have I2 : Inv X pins σ H1 { s1 with heap := s1.heap.push ro, toks := s1.toks + 1 + 1 } := I1.kept fun b o e => Heap.get?_push_of_some _ e
  have I3 : Inv X ((s1.heap.objs.size, ro) :: pins) σ H1 { s1 with heap := s1.heap.push ro, toks := s1.toks + 1 + 1 } := I2.pins_of fun p hp => by
    rcases List.mem_cons.mp hp with rfl | hp
    · exact ⟨Heap.get?_push_size _ (by rw [← hro]; rfl), I1.hok.fresh (Nat.le_refl _), Nat.ne_of_gt I1.lt, I1.nofs (Nat.le_refl _), fun v => by rw [← hro]; intro z; cases z⟩
    · exact I2.pin p (List.mem_append_right _ hp)
  show wpAny _ _ (evalAll ((do let v ← eval (.Lambda params (.Subscript (.Name o p3) (.Name x p4) p5) scope lpos) X.env; standAt pos; pure v) :: (do let v ← eval (.Constant (.bool true) j bp) X.env; standAt pos; pure v) :: [])) _ _ _
  refine wpAny_evalAll_cons (wpAny_bind (lam_make2 I3 TB hcode hmT hu hT hdef (fun y hy hf => by rw [hfree y hy hf]; exact I.ok.has _ (.inl hoc)) fun f c' pm ctv H3 s3 I4 eN T4 hf hfn hfr hco' => ?_))
  refine wpAny_bind (wpAny_standAt (wpAny_pure ?_))
  refine wpAny_evalAll_cons (wpAny_bind (Constant_bool (wpAny_bind (wpAny_standAt (wpAny_pure ?_)))))
  refine wpAny_evalAll_nil ?_
  show wpAny _ _ (call (.builtin "sorted") [.ref s1.heap.objs.size] [(Str.ofString "key", .ref f), (Str.ofString "reverse", .bool true)]) _ _ s3
  have hrg : IsRange s3.heap s1.heap.objs.size 0 (n : Int) 1 s1.toks t (s1.toks + 1) := by
    have e := (I4.pin (s1.heap.objs.size, ro) (List.mem_append_right _ List.mem_cons_self)).1
    rw [← hro] at e
    exact e
  obtain ⟨its, rv, pl, hz⟩ := I4.list (sq_extN hq eN)
  obtain ⟨cc, hcc, hcell⟩ : ∃ cc, X.env.cells.lookup o = some cc ∧ s3.heap.IsCell cc (some (.ref xa)) := by
    obtain ⟨m, hnm, hl⟩ := I4.loc
    obtain ⟨u, ru, l⟩ := hl i o _ hoN hσ (.inr (.inl hoc))
    obtain rfl : u = Value.ref xa := ru
    rcases l with ⟨hk', _⟩ | ⟨_, c, hc, hcell⟩
    · have hk2 : X.env.scope.names.lookup o = some .local := hk'
      rw [hoc] at hk2
      cases hk2
    · exact ⟨c, hc, hcell⟩
  have hcl : (cloFrom X.env.cells scope.names []).lookup o = some cc := by
    have hy : (o, NameKind.free) ∈ scope.names := PySem.mem_of_lookup ho
    obtain ⟨c1, hc1⟩ := mem_lookup (cloFrom_has (cells := X.env.cells) (acc := []) hy)
    rcases cloFrom_mem (PySem.mem_of_lookup hc1) with hm1 | ⟨_, h2'⟩
    · cases hm1
    · rw [hc1, h2', hcc]
      rfl
  obtain ⟨⟨oc, vs, tq, hoc', hdc, hvc⟩, _, _⟩ := I4.hok c' _ hco'
  refine sorted_range (n := n) (ks := ks) hr.hd (by have := hr.un; omega) hrg hn hkl (fun i' t' k' h' tk' hi' hk' kp => ?_) fun is out c2 h1' h' tk' kp1 kp2 hD hio hperm hpw => ?_
  · obtain ⟨u, hu', ru⟩ := rv.get (i := i') (x := V.int k') (by rw [List.getElem?_map, hk']; rfl)
    obtain ⟨tu, rfl⟩ := ru
    have cell1 : h'.IsCell cc (some (.ref xa)) := by
      obtain ⟨oc1, e1, e2⟩ := hcell
      exact ⟨oc1, kp _ _ e1, e2⟩
    have list1 : h'.IsList xa its.toArray := by
      obtain ⟨oc1, e1, e2⟩ := pl.isList
      exact ⟨oc1, kp _ _ e1, e2⟩
    exact lam_item (A := X.A.in1.in1) (s := { s3 with heap := h', toks := tk' }) hr.depth (kp _ _ hf) (hbind _ _ _ _ _ _) hk hco hge hnc hx ho hdx hdo hcdo ⟨c', oc, vs, tq, rfl, kp _ _ hoc', hdc, hvc⟩ (I4.nolimit.keeps kp) hcl cell1 list1 (by omega) (by omega) (by simpa using hu') fun h'' tk'' kp' => ⟨h'', tk'', rfl, kp', .int _ _⟩
  · have I5 : Inv X pins σ H3 { s3 with heap := h1', toks := tk' } := (I4.pins_of fun p hp => I4.pin p (List.mem_append_right _ (List.mem_cons_of_mem _ hp))).kept (t' := tk') kp1
    have hlen : (is.map V.int).length ≤ sizeLine := by
      rw [List.length_map, hperm.length_eq, List.length_map, List.length_range, sizeLine_eq]
      omega
    exact ⟨.ref h1'.objs.size, upd H3 h1'.objs.size (.lst (is.map V.int)), I5.laid (t' := tk') kp2 (Nat.le_refl _) (show ObjOk X.prog X.w _ _ _ (.lst (is.map V.int)) from ⟨hlen, out, c2, vals_of_ints hio, hD⟩), rfl, q H3 eN T4 is _ hperm hpw (I5.hok.fresh (Nat.le_refl _))⟩
end
end Pl
namespace Px
open PySem PySem.Spec PyProof.Rows L2 Evl LamX
theorem k_sortLam {K : PySem.W.Frag} {T : List (Addr × Str)} {i : Nat} {te : TE} {σ : L2.St} {H : Hp} {P : V → Hp → Prop} (h : EvK te σ H fun v Hx => ∃ (n : Nat) (x : Addr) (ks : List Int), v = .int (n : Int) ∧ n ≤ 100000 ∧ ks.length = n ∧ σ[i]? = some (some (.ref x)) ∧ SqL K Hx x (ks.map V.int) ∧ Tabs T Hx ∧
    ∀ H2, ExtN Hx H2 → Tabs T H2 → ∀ (is : List Int) q, is.Perm ((List.range n).map fun (i : Nat) => (i : Int)) → is.Pairwise (fun i j => ks.getD j.toNat 0 ≤ ks.getD i.toNat 0) → H2 q = none → P (.ref q) (upd H2 q (.lst (is.map V.int)))) : EvK (Pl.tSortLam K T i te) σ H P := fun H1 e Q k =>
  h H1 e _ fun v H2 ⟨Hx, ex, n, x, ks, ev, hn, hl, hs, hq, ht, hp⟩ => ⟨n, x, ks, ev, hn, hl, hs, ex_l ex hq, ht.ext ex, fun H3 e3 t3 is q h1 h2 nq => k _ _ ⟨_, Ex.refl _, hp H3 ((ExtN.of ex).trans e3) t3 is q h1 h2 nq⟩⟩
/-- a def whose code object is known -/
structure FunC (K : PySem.W.Frag) (x qual : Str) (st : Stmt) (f : Addr) (fd : FuncData) (cdv : Value) : Prop where
  ex : ∃ (oc : Value) (od : Option Addr) (kV doc pm : Value) (an : Option Addr) (ct : Value) (osl : Array (Option Value)),
    fd = PySem.W.fnOf x qual (defArgs st) (defBody st) (defScope st) .none kV doc pm an cdv ct ∧ K.lookup f = some ⟨oc, od, .func fd, osl⟩ ∧ PySem.W.codeIn K cdv qual = true
  kp : PySem.W.keepIn K (.ref f) = true
section
variable {P : Program} {w : World} {K : PySem.W.Frag} {mg : Str → Option Value} {base : Heap}
theorem funC_mk {x qual : Str} {st : Stmt} {f : Addr} {oc : Value} {od an : Option Addr} {osl : Array (Option Value)} {kV doc pm cdv ct : Value} (l : K.lookup f = some ⟨oc, od, .func (PySem.W.fnOf x qual (defArgs st) (defBody st) (defScope st) .none kV doc pm an cdv ct), osl⟩)
    (c : PySem.W.codeIn K cdv qual = true) (k : PySem.W.keepIn K (.ref f) = true) : FunC K x qual st f (PySem.W.fnOf x qual (defArgs st) (defBody st) (defScope st) .none kV doc pm an cdv ct) cdv := ⟨⟨oc, od, kV, doc, pm, an, ct, osl, rfl, l, c⟩, k⟩
theorem FunC.okX {x qual : Str} {st : Stmt} {f : Addr} {fd : FuncData} {cdv : Value} {N ps : List Str} {k : Nat} {sp : Sp} (F : FunC K x qual st f fd cdv) (S : FnScope N ps (defScope st)) (len : ∀ vs H Q E, sp vs H Q E → vs.length = ps.length)
    (hbody : ∀ (A : Around) (outer : List Env) (s : Shared) (H : Hp) (vs : List V) (Q : VK) (E : XK), Room k (A.deeper (envOfC qual (defScope st) s.heap.objs.size f cdv)) → sp vs H Q E →
      ∃ t, PSs (cxOf (L2.CX P w) P w K mg base N qual (defScope st) f cdv A outer s H E) (defBody st) t ∧ t { nx := fun _ H' => Q .non H', rt := Q } (L2.start N vs) H) : FnOk P w K mg base (L2.CX P w) (k + 1) f fd ps sp := by
  obtain ⟨oc, od, kV, doc, pm, an, ct, osl, rfl, lk, hcd⟩ := F.ex
  exact fn_of lk hcd S len hbody
theorem FunC.ok {x qual : Str} {st : Stmt} {f : Addr} {fd : FuncData} {cdv : Value} {N ps : List Str} {k : Nat} {sp : Sp} (F : FunC K x qual st f fd cdv) (S : FnScope N ps (defScope st)) (len : ∀ vs H Q E, sp vs H Q E → vs.length = ps.length)
    (hbody : ∀ (A : Around) (outer : List Env) (s : Shared) (H : Hp) (vs : List V) (Q : VK) (E : XK), Room k (A.deeper (envOfC qual (defScope st) s.heap.objs.size f cdv)) → sp vs H Q E →
      ∃ t, PSs (cxOf CX0 P w K mg base N qual (defScope st) f cdv A outer s H E).nox (defBody st) t ∧ t { nx := fun _ H' => Q .non H', rt := Q } (L2.start N vs) H) : FnOk P w K mg base CX0 (k + 1) f fd ps sp := by
  obtain ⟨oc, od, kV, doc, pm, an, ct, osl, rfl, lk, hcd⟩ := F.ex
  refine fn_of lk hcd S len fun A outer s H vs Q E hr hsp => ?_
  obtain ⟨t, h, q⟩ := hbody A outer s H vs Q E hr hsp
  exact ⟨t, h.nox, q⟩
end
end Px

set_option Elab.async false
set_option linter.all false
set_option maxRecDepth 100000
set_option maxHeartbeats 400000
/-! Pt: plain mathematics of shares: the table behind gifts. -/
namespace Pt
open Pm Pg
structure St where
  cur : List Int
  M : List (List Int)
  s : Int
def ov (cur : List Int) (z : Gift) : Int := cur.getD z.1.toNat 0 - cur.getD z.2.1.toNat 0
def sc (o : Int) (r : List Int) : List Int := r.map fun x => o * x
def bl (a b : List Int) (x y : Int) : List Int := List.zipWith (fun p q => x * p + y * q) a b
def mx (M : List (List Int)) (g t : Nat) (o d : Int) : List (List Int) := ((M.map (sc o)).set g (bl (M.getD g []) (M.getD t []) (o - d) d)).set t (bl (M.getD g []) (M.getD t []) d (o - d))
def step (S : St) (z : Gift) : St := ⟨done S.cur z.1 z.2.1 z.2.2, mx S.M z.1.toNat z.2.1.toNat (ov S.cur z) z.2.2, S.s * ov S.cur z⟩
def ident (n : Nat) : List (List Int) := (List.range n).map fun k => (List.range n).map fun j => if k = j then 1 else 0
def st0 (ns : List Int) : St := ⟨ns, ident ns.length, 1⟩
def st (ns : List Int) (Gs : List Gift) : St := Gs.foldl step (st0 ns)
theorem st_snoc (ns : List Int) (Gs : List Gift) (z : Gift) : st ns (Gs ++ [z]) = step (st ns Gs) z := by
  unfold st
  rw [List.foldl_append]
  rfl
def dot (a b : List Int) : Int := (List.zipWith (fun x y => x * y) a b).sum
theorem bl_len {a b : List Int} {x y : Int} {n : Nat} (ha : a.length = n) (hb : b.length = n) : (bl a b x y).length = n := by
  unfold bl
  rw [List.length_zipWith, ha, hb, Nat.min_self]
theorem sc_sum (o : Int) : ∀ r : List Int, (sc o r).sum = o * r.sum
  | [] => by simp [sc]
  | x :: r => by
    have h := sc_sum o r
    unfold sc at h ⊢
    rw [List.map_cons, List.sum_cons, List.sum_cons, h, Int.mul_add]
theorem bl_sum (x y : Int) : ∀ (a b : List Int), a.length = b.length → (bl a b x y).sum = x * a.sum + y * b.sum
  | [], [], _ => by simp [bl]
  | p :: a, q :: b, h => by
    have ih := bl_sum x y a b (by simpa using h)
    unfold bl at ih ⊢
    rw [List.zipWith_cons_cons, List.sum_cons, ih, List.sum_cons, List.sum_cons]
    grind
  | [], _ :: _, h => by cases h
  | _ :: _, [], h => by cases h
theorem sc_dot (o : Int) : ∀ (r f : List Int), dot (sc o r) f = o * dot r f
  | [], _ => by simp [dot, sc]
  | _ :: _, [] => by simp [dot, sc]
  | x :: r, y :: f => by
    have ih := sc_dot o r f
    unfold dot sc at ih ⊢
    rw [List.map_cons, List.zipWith_cons_cons, List.zipWith_cons_cons, List.sum_cons, List.sum_cons, ih]
    grind
theorem bl_dot (x y : Int) : ∀ (a b f : List Int), a.length = b.length → dot (bl a b x y) f = x * dot a f + y * dot b f
  | [], [], _, _ => by simp [dot, bl]
  | _ :: _, _ :: _, [], _ => by simp [dot]
  | p :: a, q :: b, u :: f, h => by
    have ih := bl_dot x y a b f (by simpa using h)
    unfold dot bl at ih ⊢
    rw [List.zipWith_cons_cons, List.zipWith_cons_cons, List.zipWith_cons_cons, List.zipWith_cons_cons, List.sum_cons, List.sum_cons, List.sum_cons, ih]
    grind
  | [], _ :: _, _, h => by cases h
  | _ :: _, [], _, h => by cases h
theorem sc_at (o : Int) (r : List Int) (j : Nat) : (sc o r).getD j 0 = o * r.getD j 0 := by
  unfold sc
  rw [List.getD_eq_getElem?_getD, List.getD_eq_getElem?_getD, List.getElem?_map]
  cases r[j]? <;> simp
theorem bl_at {a b : List Int} (h : a.length = b.length) (x y : Int) (j : Nat) : (bl a b x y).getD j 0 = x * a.getD j 0 + y * b.getD j 0 := by
  unfold bl
  rw [List.getD_eq_getElem?_getD, List.getD_eq_getElem?_getD, List.getD_eq_getElem?_getD, List.getElem?_zipWith]
  by_cases c : j < a.length
  · rw [List.getElem?_eq_getElem c, List.getElem?_eq_getElem (by omega)]
    rfl
  · rw [List.getElem?_eq_none (by omega), List.getElem?_eq_none (by omega)]
    simp
theorem nn_bound : ∀ {r : List Int}, (∀ x ∈ r, 0 ≤ x) → ∀ x ∈ r, x ≤ r.sum
  | [], _, _, h => nomatch h
  | y :: r, h, x, hx => by
    have hr : ∀ x ∈ r, 0 ≤ x := fun z hz => h z (List.mem_cons_of_mem _ hz)
    have h0 : 0 ≤ r.sum := by
      have h1 := sum_ge (x := 0) hr
      simpa using h1
    have hy := h y List.mem_cons_self
    rw [List.sum_cons]
    rcases List.mem_cons.mp hx with e | e
    · omega
    · have := nn_bound hr x e
      omega
structure Good (first : List Int) (S : St) : Prop where
  curlen : S.cur.length = first.length
  len : S.M.length = first.length
  rlen : ∀ r ∈ S.M, r.length = first.length
  nn : ∀ r ∈ S.M, ∀ x ∈ r, 0 ≤ x
  sum : ∀ r ∈ S.M, r.sum = S.s
  held : ∀ (k : Nat) r, S.M[k]? = some r → dot r first = S.s * S.cur.getD k 0
  col : ∀ j, j < first.length → (S.M.map fun r => r.getD j 0).sum = S.s
  s1 : 1 ≤ S.s
theorem getD_row {M : List (List Int)} {k : Nat} (h : k < M.length) : M[k]? = some (M.getD k []) := by
  rw [List.getD_eq_getElem?_getD, List.getElem?_eq_getElem h]
  rfl
theorem mx_len (M : List (List Int)) (g t : Nat) (o d : Int) : (mx M g t o d).length = M.length := by
  unfold mx
  rw [List.length_set, List.length_set, List.length_map]
/-- the rows of the next table -/
theorem mx_row {M : List (List Int)} {g t : Nat} {o d : Int} {k : Nat} {r : List Int} (hg : g < M.length) (ht : t < M.length) (h : (mx M g t o d)[k]? = some r) :
    (k = t ∧ r = bl (M.getD g []) (M.getD t []) d (o - d)) ∨ (k ≠ t ∧ k = g ∧ r = bl (M.getD g []) (M.getD t []) (o - d) d) ∨ (k ≠ t ∧ k ≠ g ∧ ∃ r0, M[k]? = some r0 ∧ r = sc o r0) := by
  unfold mx at h
  by_cases c : k = t
  · subst c
    rw [List.getElem?_set_self (by rw [List.length_set, List.length_map]; exact ht)] at h
    exact .inl ⟨rfl, (Option.some.inj h).symm⟩
  · rw [List.getElem?_set_ne (Ne.symm c)] at h
    by_cases c2 : k = g
    · subst c2
      rw [List.getElem?_set_self (by rw [List.length_map]; exact hg)] at h
      exact .inr (.inl ⟨c, rfl, (Option.some.inj h).symm⟩)
    · rw [List.getElem?_set_ne (Ne.symm c2), List.getElem?_map] at h
      cases e : M[k]? with
      | none => rw [e] at h; cases h
      | some r0 =>
        rw [e] at h
        exact .inr (.inr ⟨c, c2, r0, rfl, (Option.some.inj h).symm⟩)
theorem map_set_col (f : List Int → Int) (M : List (List Int)) (i : Nat) (r : List Int) : (M.set i r).map f = (M.map f).set i (f r) := List.map_set
theorem set_sum : ∀ (l : List Int) (i : Nat) (x : Int), i < l.length → (l.set i x).sum = l.sum - l.getD i 0 + x := fun l i x h => by
  have e := msum_set (fun y => y) l i x h
  simpa using e
theorem getD_map_col (f : List Int → Int) {M : List (List Int)} {k : Nat} (h : k < M.length) : (M.map f).getD k 0 = f (M.getD k []) := by
  rw [List.getD_eq_getElem?_getD, List.getElem?_map, getD_row h]
  rfl
theorem Good.ov_ge {first : List Int} {S : St} {z : Gift} (h : Good first S) (f : Fits S.cur z.1 z.2.1 z.2.2) : z.2.2 ≤ ov S.cur z := f.more
theorem Good.step {first : List Int} {S : St} {z : Gift} (h : Good first S) (f : Fits S.cur z.1 z.2.1 z.2.2) : Good first (step S z) := by
  obtain ⟨g, t, d⟩ := z
  have f' : Fits S.cur g t d := f
  have hd1 := f'.d1
  have hg : g.toNat < S.M.length := by rw [h.len, ← h.curlen]; have := f'.g0; have := f'.gn; omega
  have ht : t.toNat < S.M.length := by rw [h.len, ← h.curlen]; have := f'.t0; have := f'.tn; omega
  have hne := f'.ne
  have ho : d ≤ ov S.cur (g, t, d) := f'.more
  have hod : ov S.cur (g, t, d) = S.cur.getD g.toNat 0 - S.cur.getD t.toNat 0 := rfl
  show Good first ⟨done S.cur g t d, mx S.M g.toNat t.toNat (ov S.cur (g, t, d)) d, S.s * ov S.cur (g, t, d)⟩
  generalize ov S.cur (g, t, d) = o at ho hod
  have rg := getD_row hg
  have rt := getD_row ht
  have mg := List.mem_of_getElem? rg
  have mt := List.mem_of_getElem? rt
  generalize eA : S.M.getD g.toNat [] = A at rg mg
  generalize eB : S.M.getD t.toNat [] = B at rt mt
  have lA := h.rlen A mg
  have lB := h.rlen B mt
  have s1 := h.s1
  have rows : ∀ r, r ∈ mx S.M g.toNat t.toNat o d → r = bl A B d (o - d) ∨ r = bl A B (o - d) d ∨ ∃ r0 ∈ S.M, r = sc o r0 := fun r hr => by
    obtain ⟨k, hk⟩ := List.mem_iff_getElem?.mp hr
    rcases mx_row hg ht hk with ⟨_, e⟩ | ⟨_, _, e⟩ | ⟨_, _, r0, e0, e⟩
    · rw [eA, eB] at e
      exact .inl e
    · rw [eA, eB] at e
      exact .inr (.inl e)
    · exact .inr (.inr ⟨r0, List.mem_of_getElem? e0, e⟩)
  have bl_nn : ∀ x y : Int, 0 ≤ x → 0 ≤ y → ∀ w ∈ bl A B x y, 0 ≤ w := fun x y hx hy w hw => by
    obtain ⟨k, hk⟩ := List.mem_iff_getElem?.mp hw
    unfold bl at hk
    rw [List.getElem?_zipWith] at hk
    cases ea : A[k]? with
    | none => rw [ea] at hk; simp at hk
    | some a =>
      cases eb : B[k]? with
      | none => rw [ea, eb] at hk; simp at hk
      | some b =>
        rw [ea, eb] at hk
        have e : x * a + y * b = w := Option.some.inj hk
        have h1 := Int.mul_nonneg hx (h.nn A mg a (List.mem_of_getElem? ea))
        have h2 := Int.mul_nonneg hy (h.nn B mt b (List.mem_of_getElem? eb))
        omega
  refine ⟨(done_len _ _ _ _).trans h.curlen, (mx_len _ _ _ _ _).trans h.len, fun r hr => ?_, fun r hr => ?_, fun r hr => ?_, fun k r hk => ?_, fun j hj => ?_, ?_⟩
  · rcases rows r hr with rfl | rfl | ⟨r0, m0, rfl⟩
    · exact bl_len lA lB
    · exact bl_len lA lB
    · unfold sc
      rw [List.length_map]
      exact h.rlen r0 m0
  · rcases rows r hr with rfl | rfl | ⟨r0, m0, rfl⟩
    · exact bl_nn _ _ (by omega) (by omega)
    · exact bl_nn _ _ (by omega) (by omega)
    · intro x hx
      unfold sc at hx
      obtain ⟨y, hy, rfl⟩ := List.mem_map.mp hx
      exact Int.mul_nonneg (by omega) (h.nn r0 m0 y hy)
  · have sA := h.sum A mg
    have sB := h.sum B mt
    show r.sum = S.s * o
    rcases rows r hr with rfl | rfl | ⟨r0, m0, rfl⟩
    · rw [bl_sum _ _ _ _ (lA.trans lB.symm), sA, sB]
      grind
    · rw [bl_sum _ _ _ _ (lA.trans lB.symm), sA, sB]
      grind
    · rw [sc_sum, h.sum r0 m0, Int.mul_comm]
  · have hA := h.held _ _ rg
    have hB := h.held _ _ rt
    have hcl : S.cur.length = S.M.length := h.curlen.trans h.len.symm
    show dot r first = S.s * o * (done S.cur g t d).getD k 0
    unfold done
    rcases mx_row hg ht hk with ⟨rfl, e⟩ | ⟨hkt, rfl, e⟩ | ⟨hkt, hkg, r0, e0, e⟩
    · rw [eA, eB] at e
      rw [e, bl_dot _ _ _ _ _ (lA.trans lB.symm), hA, hB, List.getD_eq_getElem?_getD (l := List.set _ _ _), List.getElem?_set_self (by rw [List.length_set]; omega)]
      show _ = S.s * o * (S.cur.getD t.toNat 0 + d)
      grind
    · rw [eA, eB] at e
      rw [e, bl_dot _ _ _ _ _ (lA.trans lB.symm), hA, hB, List.getD_eq_getElem?_getD (l := List.set _ _ _), List.getElem?_set_ne (Ne.symm hkt), List.getElem?_set_self (by omega)]
      show _ = S.s * o * (S.cur.getD g.toNat 0 - d)
      grind
    · rw [e, sc_dot, h.held k r0 e0, List.getD_eq_getElem?_getD (l := List.set _ _ _), List.getElem?_set_ne (Ne.symm hkt), List.getElem?_set_ne (Ne.symm hkg), ← List.getD_eq_getElem?_getD]
      grind
  · have hc := h.col j hj
    show ((mx S.M g.toNat t.toNat o d).map fun r => r.getD j 0).sum = S.s * o
    unfold mx
    rw [map_set_col, map_set_col, eA, eB, set_sum _ _ _ (by rw [List.length_set, List.length_map, List.length_map]; exact ht), getD_set_ne hne, set_sum _ _ _ (by rw [List.length_map, List.length_map]; exact hg), bl_at (lA.trans lB.symm), bl_at (lA.trans lB.symm)]
    have e1 : ((S.M.map (sc o)).map fun r => r.getD j 0) = sc o (S.M.map fun r => r.getD j 0) := by
      unfold sc
      rw [List.map_map, List.map_map]
      refine List.map_congr_left fun r _ => ?_
      exact sc_at o r j
    rw [e1, sc_sum, hc, sc_at, sc_at, getD_map_col _ hg, getD_map_col _ ht, eA, eB]
    grind
  · show 1 ≤ S.s * o
    have : 0 < S.s * o := Int.mul_pos (by omega) (by omega)
    omega
theorem ident_row {n k : Nat} {r : List Int} (h : (ident n)[k]? = some r) : k < n ∧ r = (List.range n).map fun j => if k = j then 1 else 0 := by
  unfold ident at h
  rw [List.getElem?_map] at h
  by_cases c : k < n
  · rw [List.getElem?_range c] at h
    exact ⟨c, (Option.some.inj h).symm⟩
  · rw [List.getElem?_eq_none (by rw [List.length_range]; omega)] at h
    cases h
theorem delta_sum {n k : Nat} (f : Nat → Int) : ((List.range n).map fun j => if k = j then f j else 0).sum = if k < n then f k else 0 := by
  induction n with
  | zero => rfl
  | succ n ih =>
    rw [rsum_succ, ih]
    by_cases c : k < n
    · rw [if_pos c, if_neg (by omega), if_pos (by omega), Int.add_zero]
    · rw [if_neg c]
      by_cases c2 : k = n
      · subst c2
        rw [if_pos rfl, if_pos (by omega), Int.zero_add]
      · rw [if_neg c2, if_neg (by omega)]
        rfl
theorem dot_range : ∀ (f : List Int) (g : Nat → Int), dot ((List.range f.length).map g) f = ((List.range f.length).map fun j => g j * f.getD j 0).sum
  | [], _ => rfl
  | x :: f, g => by
    have ih := dot_range f (fun j => g (j + 1))
    unfold dot at ih ⊢
    rw [List.length_cons, List.range_succ_eq_map, List.map_cons, List.map_cons, List.map_map, List.map_map, List.zipWith_cons_cons, List.sum_cons, List.sum_cons]
    have e1 : (g ∘ Nat.succ) = fun j => g (j + 1) := rfl
    have e2 : ((fun j => g j * (x :: f).getD j 0) ∘ Nat.succ) = fun j => g (j + 1) * f.getD j 0 := rfl
    rw [e1, e2, ih]
    rfl
theorem good0 (ns : List Int) : Good ns (st0 ns) := by
  have hlen : (ident ns.length).length = ns.length := by unfold ident; rw [List.length_map, List.length_range]
  refine ⟨rfl, hlen, fun r hr => ?_, fun r hr x hx => ?_, fun r hr => ?_, fun k r hk => ?_, fun j hj => ?_, Int.le_refl _⟩
  · obtain ⟨k, hk⟩ := List.mem_iff_getElem?.mp hr
    obtain ⟨_, rfl⟩ := ident_row hk
    rw [List.length_map, List.length_range]
  · obtain ⟨k, hk⟩ := List.mem_iff_getElem?.mp hr
    obtain ⟨_, rfl⟩ := ident_row hk
    obtain ⟨j, _, rfl⟩ := List.mem_map.mp hx
    split <;> decide
  · obtain ⟨k, hk⟩ := List.mem_iff_getElem?.mp hr
    obtain ⟨h1, rfl⟩ := ident_row hk
    show _ = (1 : Int)
    rw [delta_sum (fun _ => 1), if_pos h1]
  · obtain ⟨h1, rfl⟩ := ident_row hk
    show _ = 1 * ns.getD k 0
    rw [dot_range ns fun j => if k = j then 1 else 0, Int.one_mul]
    have e : (fun j => (if k = j then (1 : Int) else 0) * ns.getD j 0) = fun j => if k = j then ns.getD j 0 else 0 := by
      funext j
      split <;> simp
    rw [e, delta_sum fun j => ns.getD j 0, if_pos h1]
  · show ((ident ns.length).map fun r => r.getD j 0).sum = (1 : Int)
    unfold ident
    rw [List.map_map]
    have e : ((fun r : List Int => r.getD j 0) ∘ fun k => (List.range ns.length).map fun j => if k = j then (1 : Int) else 0) = fun k => if j = k then 1 else 0 := by
      funext k
      show ((List.range ns.length).map fun j => if k = j then (1 : Int) else 0).getD j 0 = _
      rw [List.getD_eq_getElem?_getD, List.getElem?_map, List.getElem?_range hj]
      show (if k = j then (1 : Int) else 0) = _
      by_cases c : k = j
      · rw [if_pos c, if_pos c.symm]
      · rw [if_neg c, if_neg (Ne.symm c)]
    rw [e, delta_sum fun _ => 1, if_pos hj]
/-- the columns -/
def colOf (M : List (List Int)) (j : Nat) : List Int := M.map fun r => r.getD j 0
theorem col_mx {M : List (List Int)} {g t : Nat} {o d : Int} {n : Nat} (hl : ∀ r ∈ M, r.length = n) (hg : g < M.length) (ht : t < M.length) (j : Nat) :
    colOf (mx M g t o d) j = ((sc o (colOf M j)).set g ((o - d) * (colOf M j).getD g 0 + d * (colOf M j).getD t 0)).set t (d * (colOf M j).getD g 0 + (o - d) * (colOf M j).getD t 0) := by
  have lA := hl _ (List.mem_of_getElem? (getD_row hg))
  have lB := hl _ (List.mem_of_getElem? (getD_row ht))
  unfold colOf mx
  rw [map_set_col, map_set_col, bl_at (lA.trans lB.symm), bl_at (lA.trans lB.symm), getD_map_col _ hg, getD_map_col _ ht]
  congr 2
  unfold sc
  rw [List.map_map, List.map_map]
  refine List.map_congr_left fun r _ => ?_
  exact sc_at o r j
theorem col_ident {n j : Nat} (hj : j < n) : colOf (ident n) j = (List.replicate n (0 : Int)).set j 1 := by
  apply List.ext_getElem?
  intro k
  unfold colOf ident
  rw [List.map_map, List.getElem?_map]
  by_cases c : k < n
  · rw [List.getElem?_range c]
    by_cases c2 : k = j
    · subst c2
      rw [List.getElem?_set_self (by rw [List.length_replicate]; exact hj)]
      show some (((List.range n).map fun j => if k = j then (1 : Int) else 0).getD k 0) = some 1
      rw [List.getD_eq_getElem?_getD, List.getElem?_map, List.getElem?_range hj]
      show some (if k = k then (1 : Int) else 0) = _
      rw [if_pos rfl]
    · rw [List.getElem?_set_ne (Ne.symm c2), List.getElem?_replicate, if_pos c]
      show some (((List.range n).map fun j => if k = j then (1 : Int) else 0).getD j 0) = some 0
      rw [List.getD_eq_getElem?_getD, List.getElem?_map, List.getElem?_range hj]
      show some (if k = j then (1 : Int) else 0) = _
      rw [if_neg c2]
  · rw [List.getElem?_eq_none (by rw [List.length_range]; omega), List.getElem?_eq_none (by rw [List.length_set, List.length_replicate]; omega)]
    rfl
end Pt

set_option Elab.async false
set_option linter.all false
set_option maxRecDepth 100000
set_option maxHeartbeats 4000000
/-! Pe: except clauses in a row, some with a name; Base.__init__(self, ..) of an exception class of the program. -/
namespace Px
open PySem PySem.Spec PyProof.Rows L2 Evl
/-- what the clauses make of an exception; an end without one of them is not served -/
def wRow (K : PySem.W.Frag) (D : Ends) : List (Value × Option Nat × (Addr → Value → Option Addr → TS)) → WX
  | [] => fun _ _ _ _ => False
  | (c, none, ts) :: l => fun cls d σ H => ∃ b, PySem.W.exmOne K cls c = some b ∧ (b = true → ∀ a, H a = none → ts a cls d D σ H) ∧ (b = false → wRow K D l cls d σ H)
  | (c, some i, ts) :: l => fun cls d σ H => ∃ b, PySem.W.exmOne K cls c = some b ∧ (b = true → ∀ a, H a = none → ts a cls d { nx := fun σ' H' => D.nx (σ'.set i none) H', rt := D.rt, bk := fun σ' H' => D.bk (σ'.set i none) H', ct := fun σ' H' => D.ct (σ'.set i none) H' } (σ.set i (some (.ref a))) H) ∧ (b = false → wRow K D l cls d σ H)
inductive RowOk (X : Cx) : List ExceptHandler → List (Value × Option Nat × (Addr → Value → Option Addr → TS)) → Prop
  | nil : RowOk X [] []
  | one {x : Str} {c : Value} {ts : Addr → Value → Option Addr → TS} {b₀ : Stmt} {suite : List Stmt} {np pos' : Pos} {hds : List ExceptHandler} {l : List (Value × Option Nat × (Addr → Value → Option Addr → TS))} (hc : Names X x c)
      (hsu : ∀ (a : Addr) (oe : Obj) (cls : Value) (d : Option Addr) (pn : List (Addr × Obj)), Zc cls d oe → (∃ vs, oe.data = .fields vs) → PSs (X.suite a ((a, oe) :: pn)) (b₀ :: suite) (ts a cls d)) (r : RowOk X hds l) :
      RowOk X (.ExceptHandler (some (.Name x np)) none (b₀ :: suite) pos' :: hds) ((c, none, ts) :: l)
  | nam {x n : Str} {i : Nat} {c : Value} {ts : Addr → Value → Option Addr → TS} {b₀ : Stmt} {suite : List Stmt} {np pos' : Pos} {hds : List ExceptHandler} {l : List (Value × Option Nat × (Addr → Value → Option Addr → TS))} (hc : Names X x c) (nd : X.N.Nodup) (hi : X.N[i]? = some n) (hln : X.env.kindOf n = some .local)
      (hsu : ∀ (a : Addr) (oe : Obj) (cls : Value) (d : Option Addr) (pn : List (Addr × Obj)), Zc cls d oe → (∃ vs, oe.data = .fields vs) → PSs (X.suite a ((a, oe) :: pn)) (b₀ :: suite) (ts a cls d)) (r : RowOk X hds l) :
      RowOk X (.ExceptHandler (some (.Name x np)) (some n) (b₀ :: suite) pos' :: hds) ((c, some i, ts) :: l)
theorem looks_type {M : Model} {h : Heap} {a : Addr} {o : Obj} (e : h.get? a = some o) : PySem.W.Looks M h (typeOf (.ref a)) o.cls := by
  exact (PySem.W.Looks.ld e).andThen PySem.W.Looks.now
theorem ld_name {X : Cx} {E : Value → Shared → Prop} {pins : List (Addr × Obj)} {s : Shared} {σ : L2.St} {H : Hp} {x : Str} {c : Value} {pos : Pos} {Q : Value → Shared → Prop} (I : Inv X pins σ H s) (hc : Names X x c) (q : Q c s) : wpAny (model X.prog X.w) X.A (eval (.Name x pos) X.env) Q E s := by
  obtain ⟨hg, hd, h | ⟨h1, h2, h3⟩⟩ := hc
  · exact ld_glob I hg h q hd
  · exact ld_blt I hg h1 h2 q h3 hd
section
variable {X : Cx}
/-- an exception that has landed, the clauses still to be asked -/
structure Down (X : Cx) (pins : List (Addr × Obj)) (σ : L2.St) (H : Hp) (a : Addr) (cls : Value) (d : Option Addr) (B : Heap) (sI s : Shared) : Prop where
  inv : Inv X pins σ H sI
  kB : ∀ (b : Addr) (o : Obj), sI.heap.get? b = some o → ¬ b ∈ frs X.stack → B.get? b = some o
  up : sI.heap.UpToSlots s.heap
  fly : PySem.HandSPX.FlyingZ B (X.env :: X.outer) a (Zc cls d) s.heap
  na : H a = none
  os : s.os = sI.os
  bare : AllBare s.gens
variable {pins : List (Addr × Obj)} {σ : L2.St} {H : Hp} {a : Addr} {cls : Value} {d : Option Addr} {B : Heap} {sI s : Shared}
theorem Down.here (D : Down X pins σ H a cls d B sI s) : Inv X pins σ H s := D.inv.landed D.kB D.fly.1 D.up D.os D.bare
theorem Down.next (D : Down X pins σ H a cls d B sI s) {h' : Heap} (f : PySem.HandSPX.FlyingZ B (X.env :: X.outer) a (Zc cls d) h') (u : s.heap.UpToSlots h') : Down X pins σ H a cls d B sI { s with heap := h' } := ⟨D.inv, D.kB, D.up.trans u, f, D.na, D.os, D.bare⟩
theorem Down.suite (hf : X.env.frame = some X.env.locals) (D : Down X pins σ H a cls d B sI s) : ∃ (oe : Obj) (vs : Array Value), s.heap.get? a = some oe ∧ Zc cls d oe ∧ oe.data = .fields vs ∧ Inv (X.suite a ((a, oe) :: (X.pn ++ pins))) [] σ H s := by
  obtain ⟨oe, vs, h1, h2, h3⟩ := D.fly.there
  have fm := fun {b : Addr} (hb : b ∈ (X.env :: X.outer).filterMap (·.frame)) => D.fly.2.2.1.mem hb
  refine ⟨oe, vs, h1, h2, h3, D.here.suite h1 h3 D.na (fun e => ?_) (fun e => ?_)⟩
  · subst e
    obtain ⟨_, o, e1, e2⟩ := fm (List.mem_filterMap.mpr ⟨X.env, List.mem_cons_self, hf⟩)
    rw [h1] at e1
    cases e1
    exact e2 _ h3
  · obtain ⟨env, e1, e2⟩ := List.mem_filterMap.mp e
    obtain ⟨_, o, e3, e4⟩ := fm (List.mem_filterMap.mpr ⟨env, List.mem_cons_of_mem _ e1, e2⟩)
    rw [h1] at e3
    cases e3
    exact e4 _ h3
/-- a clause's test -/
theorem Down.test (hf : X.env.frame = some X.env.locals) (D : Down X pins σ H a cls d B sI s) {x : Str} {c : Value} {np pos : Pos} {b : Bool} {R : Result → Shared → Prop} (hc : Names X x c) (he : PySem.W.exmOne X.K cls c = some b) (hR : R (.ok (if b = true then .brk else .next)) s) :
    codeAny (model X.prog X.w) (X.A.mark (some (.ref a))) (.handlers (.ref a) [.ExceptHandler (some (.Name x np)) none [] pos] X.env) R s := by
  obtain ⟨oe, vs, h1, h2, h3, I⟩ := D.suite hf
  refine codeAny_handlers_test ?_
  refine ld_name (X := X.suite a ((a, oe) :: (X.pn ++ pins))) I hc ?_
  refine (PySem.W.exm_one (cls := cls) D.here.kIn ?_ he).here hR
  rw [← h2.1]
  exact looks_type h1
theorem SP_unsuite {q : Addr × Obj} {D : Ends} {f : Flow} {s' : Shared} (ok : X.Ok) (h : SP (X.suite a (q :: (X.pn ++ pins))) [] D f s') : SP X pins D f s' := by
  cases f with
  | next => obtain ⟨σ', H', I, q⟩ := h; exact ⟨σ', H', I.unsuite ok, q⟩
  | brk => obtain ⟨σ', H', I, q⟩ := h; exact ⟨σ', H', I.unsuite ok, q⟩
  | cont => obtain ⟨σ', H', I, q⟩ := h; exact ⟨σ', H', I.unsuite ok, q⟩
  | ret u => obtain ⟨v, σ', H', I, r, q⟩ := h; exact ⟨v, σ', H', I.unsuite ok, r, q⟩
theorem row_run (hf : X.env.frame = some X.env.locals) {D : Ends} : ∀ {hds : List ExceptHandler} {l : List (Value × Option Nat × (Addr → Value → Option Addr → TS))}, RowOk X hds l → ∀ {s : Shared}, Down X pins σ H a cls d B sI s → wRow X.K D l cls d σ H →
    wpAny (model X.prog X.w) X.A (handleBy (.ref a) X.env hds) (SP X pins D) X.xe s := by
  intro hds l r
  induction r with
  | nil => exact fun _ w => w.elim
  | @one x c ts b₀ suite np pos' hds l hc hsu r ih =>
    rintro s dn ⟨b, he, hT, hF⟩
    refine wpAny_handleBy_cons (dn.test hf hc he ?_) (fun e => by cases e)
    cases b with
    | false => exact ih dn (hF rfl)
    | true =>
      refine codeAny_handlers_suite (PySem.HandSPX.lands_againZ dn.fly fun h' f u => ?_)
      have dn2 := dn.next f u
      obtain ⟨oe, vs, h1, h2, h3, I⟩ := dn2.suite hf
      refine wpAny_mono ((hsu a oe cls d (X.pn ++ pins) h2 ⟨_, h3⟩).run [] _ σ H D I (hT rfl a dn.na)) (fun f s' q => SP_unsuite dn.inv.ok q) (fun _ _ z => z.elim)
  | @nam x n i c ts b₀ suite np pos' hds l hc nd hi hln hsu r ih =>
    rintro s dn ⟨b, he, hT, hF⟩
    refine wpAny_handleBy_cons (dn.test hf hc he ?_) (fun e => by cases e)
    cases b with
    | false => exact ih dn (hF rfl)
    | true =>
      refine codeAny_handlers_suite_as (PySem.HandSPX.lands_againZ dn.fly fun h' f u => ?_)
      have dn2 := dn.next f u
      obtain ⟨oe, vs, h1, h2, h3, I⟩ := dn2.suite hf
      refine store_ok (X := X.suite a ((a, oe) :: (X.pn ++ pins))) (v := .ref a) I nd hi (.inl hln) rfl (fun s2 I2 => ?_) (.inr hln)
      refine wpAny_mono ((hsu a oe cls d (X.pn ++ pins) h2 ⟨_, h3⟩).run [] _ _ H _ I2 (hT rfl a dn.na)) (fun f s' q => ?_) (fun _ _ z => z.elim)
      have q2 := SP_unsuite dn.inv.ok q
      cases f with
      | next => obtain ⟨σ', H', I, q⟩ := q2; exact gone_ok I nd hi hln fun s3 I3 => ⟨_, _, I3, q⟩
      | brk => obtain ⟨σ', H', I, q⟩ := q2; exact gone_ok I nd hi hln fun s3 I3 => ⟨_, _, I3, q⟩
      | cont => obtain ⟨σ', H', I, q⟩ := q2; exact gone_ok I nd hi hln fun s3 I3 => ⟨_, _, I3, q⟩
      | ret u => obtain ⟨v, σ', H', I, r, q⟩ := q2; exact gone_ok I nd hi hln fun s3 I3 => ⟨v, _, _, I3, r, q⟩
theorem ps_tryRow0 {body : List Stmt} {h₀ : ExceptHandler} {hds : List ExceptHandler} {l : List (Value × Option Nat × (Addr → Value → Option Addr → TS))} {pos : Pos} {tb : WX → TS} (hs : X.stack = X.env :: X.outer) (hf : X.env.frame = some X.env.locals)
    (hb : ∀ (W : WX) (pn : List (Addr × Obj)) (xe : Value → Shared → Prop), Takes (X.tr pn xe) W → PassesOwn (model X.prog X.w) X.A X.env xe → PSs (X.tr pn xe) body (tb W)) (hh : RowOk X (h₀ :: hds) l) :
    PS X (.Try body (h₀ :: hds) [] [] pos) (fun D σ H => tb (wRow X.K D l) D σ H) := by
  refine ⟨fun pins s σ H D I h => ?_⟩
  refine wpAny_Try_except ?_
  have ok := I.ok
  refine wpAny_mono ((hb (wRow X.K D l) (X.pn ++ pins) (fun e s₁ => wpAny (model X.prog X.w) X.A (noteFrame e X.env) (fun _ s₂ => wpAny (model X.prog X.w) X.A (setFlight e none) (fun _ s₃ => wpAny (model X.prog X.w) X.A (handleBy e X.env (h₀ :: hds)) (SP X pins D) X.xe s₃) X.xe s₂) X.xe s₁) ?tk ?po).run [] s σ H D (I.toTry _) h) (fun f s' q => ?_) (fun _ _ z => z)
  case tk =>
    rintro u s' ⟨a, B, sI, pins', σ', H', cls, d, rfl, I1, kB, up, sky, na, eos, bare, w⟩
    have I2 : Inv X pins σ' H' sI := I1.ofTry ok
    rw [show (X.tr (X.pn ++ pins) _).stack = X.env :: X.outer from hs] at sky
    refine Sky.land Zc.steady (ok.frames.trans (by rw [hs])) hf sky fun h' fly up2 => ?_
    exact row_run hf hh ⟨I2, kB, up.trans up2, fly, na, eos, bare⟩ w
  case po =>
    exact PassesOwn.looking
  · cases f with
    | next => obtain ⟨σ', H', I', q⟩ := q; exact wpAny_execs_nil ⟨σ', H', I'.ofTry ok, q⟩
    | brk => obtain ⟨σ', H', I', q⟩ := q; exact ⟨σ', H', I'.ofTry ok, q⟩
    | cont => obtain ⟨σ', H', I', q⟩ := q; exact ⟨σ', H', I'.ofTry ok, q⟩
    | ret u => obtain ⟨v, σ', H', I', r, q⟩ := q; exact ⟨v, σ', H', I'.ofTry ok, r, q⟩
theorem ps_tryRow {K : PySem.W.Frag} {body : List Stmt} {h₀ : ExceptHandler} {hds : List ExceptHandler} {l : List (Value × Option Nat × (Addr → Value → Option Addr → TS))} {pos : Pos} {tb : WX → TS} (hs : X.stack = X.env :: X.outer) (hf : X.env.frame = some X.env.locals)
    (hb : ∀ (W : WX) (pn : List (Addr × Obj)) (xe : Value → Shared → Prop), Takes (X.tr pn xe) W → PassesOwn (model X.prog X.w) X.A X.env xe → PSs (X.tr pn xe) body (tb W)) (hh : RowOk X (h₀ :: hds) l) (hK : X.K = K := by rfl) :
    PS X (.Try body (h₀ :: hds) [] [] pos) (tTry tb (fun D => wRow K D l)) := by
  subst hK
  exact ps_tryRow0 hs hf hb hh
end
section
variable {K : PySem.W.Frag} {σ : L2.St} {H : Hp} {D : Ends}
theorem kr_yes {c : Value} {ts : Addr → Value → Option Addr → TS} {l : List (Value × Option Nat × (Addr → Value → Option Addr → TS))} {cls : Value} {d : Option Addr} (he : PySem.W.exmOne K cls c = some true)
    (h : ∀ a, H a = none → Go (ts a cls d) D σ H) : KE (WE (wRow K D ((c, none, ts) :: l)) σ) cls d H := fun H1 e => ⟨true, he, fun _ a na => h a (fresh_back e na) H1 e, fun q => Bool.noConfusion q⟩
theorem kr_no {c : Value} {o : Option Nat} {ts : Addr → Value → Option Addr → TS} {l : List (Value × Option Nat × (Addr → Value → Option Addr → TS))} {cls : Value} {d : Option Addr} (he : PySem.W.exmOne K cls c = some false)
    (h : KE (WE (wRow K D l) σ) cls d H) : KE (WE (wRow K D ((c, o, ts) :: l)) σ) cls d H := fun H1 e => by
  cases o with
  | none => exact ⟨false, he, fun q => Bool.noConfusion q, fun _ => h H1 e⟩
  | some i => exact ⟨false, he, fun q => Bool.noConfusion q, fun _ => h H1 e⟩
theorem kr_as {c : Value} {i : Nat} {ts : Addr → Value → Option Addr → TS} {l : List (Value × Option Nat × (Addr → Value → Option Addr → TS))} {cls : Value} {d : Option Addr} (he : PySem.W.exmOne K cls c = some true)
    (h : ∀ a, H a = none → Go (ts a cls d) { nx := fun σ' H' => D.nx (σ'.set i none) H', rt := D.rt, bk := fun σ' H' => D.bk (σ'.set i none) H', ct := fun σ' H' => D.ct (σ'.set i none) H' } (σ.set i (some (.ref a))) H) : KE (WE (wRow K D ((c, some i, ts) :: l)) σ) cls d H := fun H1 e => ⟨true, he, fun _ a na => h a (fresh_back e na) H1 e, fun q => Bool.noConfusion q⟩
/-- isinstance(e, c), e the exception in hand, with a dict of its own -/
def rIsED (K : PySem.W.Frag) (C a dd : Addr) : List V → Hp → VK → Prop := fun xs H Q => ∃ (c : V) (cv : Value) (b : Bool) (fs : List (Str × V)), xs = [.ref a, c] ∧ (∀ u, RelV c u → u = cv) ∧ PySem.W.kitOne K (.ref C) cv = some b ∧ H dd = some (.xd fs) ∧ Q (.bl b) H
theorem bIsED {X : Cx} {a C dd : Addr} {oe : Obj} {pn : List (Addr × Obj)} (CE : ExcC K C) (hz : Zc (.ref C) (some dd) oe) (hf : ∃ vs, oe.data = .fields vs) (cl : (PySem.W.clsIn K C).isSome = true) (h : X.K = K := by rfl) : CallR (X.suite a ((a, oe) :: pn)) (.builtin "isinstance") (rIsED K C a dd) := by
  subst h
  rintro pins s σ H xs us Q I r ⟨c, cv, b, fs, rfl, hc, hk, hd, q⟩
  obtain ⟨u1, u2, rfl, r1, r2⟩ : ∃ u1 u2, us = [u1, u2] ∧ RelV (.ref a) u1 ∧ RelV c u2 := by
    cases r with
    | cons h1 r => cases r with
      | cons h2 r => cases r with
        | nil => exact ⟨_, _, rfl, h1, h2⟩
  obtain rfl : u1 = Value.ref a := r1
  obtain rfl := hc u2 r2
  obtain ⟨mA, ⟨od, es, ep, ho, _⟩, _⟩ : ∃ mA, s.heap.Ns1 dd mA ∧ ∀ (f : Str), RelO (List.lookup f fs) (mA f) := I.hok dd (.xd fs) hd
  have ha : s.heap.get? a = some oe := (I.pin (a, oe) (List.mem_append_left _ List.mem_cons_self)).1
  obtain ⟨vs, hv⟩ := hf
  have IA : PySem.W.InstAt s.heap a oe C (some od) := ⟨ha, hz.1, by unfold PySem.W.notCls; rw [hv], by rw [hz.2]; exact ho⟩
  refine PySem.W.kia_one (H := fun h => PySem.W.InstAt h a oe C (some od)) (PySem.W.kitx_exc cl CE.hg CE.hk CE.hs CE.ha CE.hn CE.ht CE.hm) I.kIn IA hk (fun z => by cases z) fun tk => ⟨.bl b, H, I.tok tk, ⟨rfl, q⟩⟩
theorem c_isED {C a dd : Addr} {n : String} {b : Bool} {H : Hp} {P : V → Hp → Prop} {fs : List (Str × V)} (hk : PySem.W.kitOne K (.ref C) (.type n) = some b) (hd : H dd = some (.xd fs)) (hp : P (.bl b) H) : CK (rIsED K C a dd) [.ref a, .ty n] H P := fun H1 e Q k => ⟨.ty n, .type n, b, fs, rfl, fun u r => r, hk, e _ _ hd, k _ _ ⟨H, e, hp⟩⟩
/-- e.f, e the exception -/
theorem k_xf {a C dd : Addr} {fs : List (Str × V)} {f : Str} {te : TE} {v : V} {P : V → Hp → Prop} (h : EvK te σ H fun x Hx => x = .ref a ∧ Hx dd = some (.xd fs) ∧ fs.lookup f = some v ∧ P v Hx) : EvK (tXf a (.ref C) (some dd) C f te) σ H P := fun H1 e Q k =>
  h H1 e _ fun x H2 ⟨Hx, ex, e1, e2, e3, e4⟩ => ⟨e1, rfl, dd, fs, v, rfl, ex _ _ e2, e3, k _ _ ⟨Hx, ex, e4⟩⟩
/-- Base.__init__(self, ..), Base a class of the program that has the built-in one's -/
theorem pe_cinit {X : Cx} {x : Str} {D : Addr} {mc : Value} {e : Expr} {es : List Expr} {ta : TA} {p1 p2 pos : Pos} {pl : PySem.Sem Bool} (hg : Gl X x) (hm : X.mg x = some (.ref D)) (rd : PySem.W.readsIn X.K D mc = true) (ga : PySem.W.specialIn X.K (.ref D) "__getattribute__" = some (some (.builtin "type.__getattribute__")))
    (vV : PySem.W.findCls X.K (.ref D) mc "__init__" = some (.val (.builtin "ValueError.__init__"))) (he : PA X (e :: es) ta) (hK : X.K = K := by rfl) (hd : (x == ("__debug__" : Str)) = false := by rfl)
    (hq : eval (.Call (.Attribute (.Name x p1) "__init__" p2) (e :: es) [] pos) X.env = (do
      let ov ← eval (.Name x p1) X.env
      standAt p2.atName
      let (f, first) ← holding [ov] (getMethod ov "__init__" pl)
      callWith pos f first (backTo pos (starEach (e :: es) X.env)) (backToKw pos (keywordEach [] X.env))) := by rfl)
    (hs : starEach (e :: es) X.env = (false, eval e X.env) :: starEach es X.env := by rfl) (hs2 : (backTo pos (starEach es X.env)).any (·.1) = false := by rfl) :
    PE X (.Call (.Attribute (.Name x p1) "__init__" p2) (e :: es) [] pos) (tVeI K ta) := by
  subst hK
  refine ⟨fun pins s σ H Q I h => ?_⟩
  refine PySem.W.methodCall_KW (pl := pl) (ld_glob I hg hm ?_ hd) hq
  refine PySem.W.method_cls I.kIn ga (PySem.W.cls_value I.kIn rd vV rfl ?_)
  refine PyProof.Rows.callWith_builtin1 (thn (he.run pos pins _ σ H _ (I.tok _) h) fun us s1 q1 => ?_) hs hs2
  obtain ⟨vs, H1, I1, r1, a, C, ws, rfl, hl, T, ea, q⟩ := q1
  cases r1 with
  | cons h1 r1 =>
    obtain rfl : _ = Value.ref a := h1
    refine oinit_ok T I1 ea ?_ fun s' I' => ⟨.non, H1, I', rfl, q⟩
    rw [← r1.length]
    exact Nat.le_trans hl (by decide)
theorem k_vei {ta : TA} {P : V → Hp → Prop} (h : EvAK ta σ H fun vs Hx => ∃ (a C : Addr) (ws : List V), vs = .ref a :: ws ∧ ws.length ≤ 1000 ∧ OexC K C ∧ Hx a = some (exo a C none) ∧ P .non Hx) : EvK (tVeI K ta) σ H P := fun H1 e Q k =>
  h H1 e _ fun vs H2 ⟨Hx, ex, a, C, ws, e1, e2, e3, e4, e5⟩ => ⟨a, C, ws, e1, e2, e3, ex _ _ e4, k _ _ ⟨Hx, ex, e5⟩⟩
/-- self.f = v, the first of an exception's own fields, the last statement -/
theorem g1_ost {f : Str} {te to : TE} (h : EvK te σ H fun y Hy => EvK to σ Hy fun x Hx => ∃ (a C : Addr), x = .ref a ∧ OexC K C ∧ PySem.W.findIn K (.ref C) f = some none ∧ Hx a = some (exo a C none) ∧ ∀ Hr, Ex Hx Hr → ∀ dx, Hr dx = none → dx ≠ a → D.nx σ (upd (upd Hr dx (exd dx [(f, y)])) a (exo a C (some dx)))) : Go (tOst K f to te) D σ H := fun H1 e =>
  h H1 e _ fun y H2 ⟨Hy, ey, h2⟩ => h2 H2 ey _ fun x H3 ⟨Hx, ex, a, C, e1, e2, e3, e4, e5⟩ => ⟨a, C, e1, e2, e3, .inl ⟨ex _ _ e4, fun dx nd ne => e5 H3 ex dx nd ne⟩⟩
/-- an exception's own __init__ that stores one field -/
def spIni (K : PySem.W.Frag) (f : Str) : Sp := fun vs H Q _ => ∃ (a C : Addr) (v : V), vs = [.ref a, v] ∧ OexC K C ∧ PySem.W.findIn K (.ref C) f = some none ∧ H a = some (exo a C none) ∧ ∀ d, H d = none → d ≠ a → ∀ H2, Ex (upd (upd H d (exd d [(f, v)])) a (exo a C (some d))) H2 → Q .non H2
/-- raise C(v), C with such an __init__ -/
theorem g_raiseO {C : Addr} {f : Str} {ta : TA} {E : XK} (T : OexC K C) (hno : PySem.W.findIn K (.ref C) f = some none) (h : EvAK ta σ H fun vs Hx => ∃ v, vs = [v] ∧ ∀ d H', Ex Hx H' → H' d = some (.xd [(f, v)]) → E (.ref C) (some d) H') :
    Go (fun _ σ H => tMkO C (spIni K f) [] ta σ H fun cls d H' => E cls d H') D σ H := fun H1 e => h H1 e _ fun vs H2 ⟨Hx, ex, v, ev, k⟩ => by
  subst ev
  refine ⟨by show 1 ≤ 1000; decide, fun a na => ⟨a, C, v, rfl, T, hno, upd_same, fun d nd nda H3 e3 => ⟨rfl, d, [(f, v)], e3 _ _ upd_same, e3 _ _ (by rw [upd_ne nda]; exact upd_same), ?_, ?_⟩⟩⟩
  · rw [upd_ne nda] at nd
    exact nd
  · refine k d _ (fun b o hb => ?_) upd_same
    have hb2 := ex b o hb
    have nba : b ≠ a := fun z => by subst z; rw [na] at hb2; cases hb2
    rw [upd_ne nda] at nd
    have nbd : b ≠ d := fun z => by subst z; rw [nd] at hb2; cases hb2
    rw [upd_ne nbd, del_ne nba]
    exact e3 b o (by rw [upd_ne nba, upd_ne nbd, upd_ne nba]; exact hb2)
/-- a suite that is only asked for exceptions of the class at C that have a dict -/
def tsG (C : Addr) (ts : Addr → Addr → TS) : Addr → Value → Option Addr → TS := fun a cls d Dn σ H => ∃ dd, cls = .ref C ∧ d = some dd ∧ ts a dd Dn σ H
theorem suiteG {X : Cx} {C : Addr} {sts : List Stmt} {ts : Addr → Addr → TS} (h : ∀ (a : Addr) (oe : Obj) (dd : Addr) (pn : List (Addr × Obj)), Zc (.ref C) (some dd) oe → (∃ vs, oe.data = .fields vs) → PSs (X.suite a ((a, oe) :: pn)) sts (ts a dd)) :
    ∀ (a : Addr) (oe : Obj) (cls : Value) (d : Option Addr) (pn : List (Addr × Obj)), Zc cls d oe → (∃ vs, oe.data = .fields vs) → PSs (X.suite a ((a, oe) :: pn)) sts (tsG C ts a cls d) := fun a oe cls d pn hz hf =>
  ⟨fun pins s σ H Dn I hh => by
    obtain ⟨dd, e1, e2, h2⟩ := hh
    subst e1 e2
    exact (h a oe dd pn hz hf).run pins s σ H Dn I h2⟩
theorem g_tsG {C a dd : Addr} {ts : Addr → Addr → TS} (h : Go (ts a dd) D σ H) : Go (tsG C ts a (.ref C) (some dd)) D σ H := fun H1 e => ⟨dd, rfl, rfl, h H1 e⟩
/-- l.index(v), whole numbers -/
theorem first_at : ∀ {ns : List Int} {v : Int}, v ∈ ns → ∃ j, ns[j]? = some v ∧ ∀ (m : Nat) (z : Int), m < j → ns[m]? = some z → z ≠ v
  | [], _, h => by cases h
  | n :: ns, v, h => by
    by_cases c : n = v
    · subst c
      exact ⟨0, rfl, fun m z hm => absurd hm (Nat.not_lt_zero m)⟩
    · obtain ⟨j, h1, h2⟩ := first_at (List.mem_of_ne_of_mem (Ne.symm c) h)
      refine ⟨j + 1, h1, fun m z hm hz => ?_⟩
      cases m with
      | zero =>
        obtain rfl : n = z := Option.some.inj hz
        exact c
      | succ m => exact h2 m z (by omega) hz
theorem m_index {a : Addr} {ns : List Int} {v : Int} {P : V → Hp → Prop} (h : SqL K H a (ns.map V.int)) (hv : v ∈ ns) (hp : ∀ j : Nat, j < ns.length → P (.int (j : Int)) H) : MK (rIndex K) (.ref a) [.int v] H P := fun H1 e Q k => by
  obtain ⟨j, h1, h2⟩ := first_at hv
  refine ⟨a, ns.map V.int, .int v, j, .int v, rfl, rfl, ex_l e h, rfl, ?_, by rw [List.getElem?_map, h1]; rfl, ?_, fun m z' hm hz => ?_, k _ _ ⟨H, e, hp j (List.getElem?_eq_some_iff.mp h1).1⟩⟩
  · rw [List.all_map]
    exact List.all_eq_true.mpr fun _ _ => rfl
  · show decide (v = v) = true
    exact decide_eq_true rfl
  · rw [List.getElem?_map] at hz
    cases hx : ns[m]? with
    | none => rw [hx] at hz; cases hz
    | some x =>
      rw [hx] at hz
      obtain rfl : V.int x = z' := Option.some.inj hz
      show decide (x = v) = false
      exact decide_eq_false (h2 m x hm hx)
end
end Px

set_option Elab.async false
set_option linter.all false
set_option maxRecDepth 100000
set_option maxHeartbeats 4000000
namespace K07
open PySem PySem.Spec PyProof.Rows L2 Evl Px
open LamX (Tabs TabS ExtN CodeO)
def topS (i : Nat) : Stmt := PySem.Challenge.pw_pursewise_k07_whole_a_way_or_a_gap.main.body.getD i (.Pass ⟨0, 0, 0, 0⟩)
abbrev s_Lgap : Stmt := topS 21
abbrev n_Lgap : List Str := ["_law_one", "_law_other", "_law_here", "_law_there", "_law_more", "_law_k"]
theorem sc_Lgap : FnScope n_Lgap ["_law_one", "_law_other"] (defScope s_Lgap) := ⟨rfl, rfl, rfl, by decide +kernel, rfl, by decide +kernel, by decide +kernel⟩
abbrev s_Ldues : Stmt := topS 22
abbrev n_Ldues : List Str := ["_law_one", "_law_other", "_law_here", "_law_there", "_law_k"]
theorem sc_Ldues : FnScope n_Ldues ["_law_one", "_law_other"] (defScope s_Ldues) := ⟨rfl, rfl, rfl, by decide +kernel, rfl, by decide +kernel, by decide +kernel⟩
abbrev s_Lwhole : Stmt := topS 16
abbrev n_Lwhole : List Str := ["_law_found"]
theorem sc_Lwhole : FnScope n_Lwhole ["_law_found"] (defScope s_Lwhole) := ⟨rfl, rfl, rfl, by decide +kernel, rfl, by decide +kernel, by decide +kernel⟩
abbrev s_Lis_gift : Stmt := topS 23
abbrev n_Lis_gift : List Str := ["_law_gift", "_law_here", "_law_part"]
theorem sc_Lis_gift : FnScope n_Lis_gift ["_law_gift", "_law_here"] (defScope s_Lis_gift) := ⟨rfl, rfl, rfl, by decide +kernel, rfl, by decide +kernel, by decide +kernel⟩
abbrev s_Lleads : Stmt := topS 24
abbrev n_Lleads : List Str := ["_law_one", "_law_other", "_law_gifts", "_law_here", "_law_handed_on", "_law_gift"]
theorem sc_Lleads : FnScope n_Lleads ["_law_one", "_law_other", "_law_gifts"] (defScope s_Lleads) := ⟨rfl, rfl, rfl, by decide +kernel, rfl, by decide +kernel, by decide +kernel⟩
abbrev s_together : Stmt := topS 9
abbrev n_together : List Str := ["one", "other"]
theorem sc_together : FnScope n_together ["one", "other"] (defScope s_together) := ⟨rfl, rfl, rfl, by decide +kernel, rfl, by decide +kernel, by decide +kernel⟩
abbrev s_tops : Stmt := topS 7
abbrev n_tops : List Str := ["row", "found", "total", "held"]
theorem sc_tops : FnScope n_tops ["row"] (defScope s_tops) := ⟨rfl, rfl, rfl, by decide +kernel, rfl, by decide +kernel, by decide +kernel⟩
abbrev s_gap : Stmt := topS 10
abbrev n_gap : List Str := ["one", "other", "firsts", "seconds", "count"]
theorem sc_gap : FnScope n_gap ["one", "other"] (defScope s_gap) := ⟨rfl, rfl, rfl, by decide +kernel, rfl, by decide +kernel, by decide +kernel⟩
abbrev s_last_above : Stmt := topS 11
abbrev n_last_above : List Str := ["held", "goals", "found", "rank"]
theorem sc_last_above : FnScope n_last_above ["held", "goals"] (defScope s_last_above) := ⟨rfl, rfl, rfl, by decide +kernel, rfl, by decide +kernel, by decide +kernel⟩
abbrev s_next_below : Stmt := topS 12
abbrev n_next_below : List Str := ["held", "goals", "rank", "found"]
theorem sc_next_below : FnScope n_next_below ["held", "goals", "rank"] (defScope s_next_below) := ⟨rfl, rfl, rfl, by decide +kernel, rfl, by decide +kernel, by decide +kernel⟩
abbrev s_way : Stmt := topS 13
abbrev n_way : List Str := ["one", "other", "count", "places", "held", "goals", "gifts", "high", "low", "amount", "place"]
theorem sc_way : FnScope n_way ["one", "other"] (defScope s_way) := ⟨rfl, rfl, rfl, by decide +kernel, rfl, by decide +kernel, by decide +kernel⟩
abbrev s_Lno_way : Stmt := topS 25
abbrev n_Lno_way : List Str := ["_law_one", "_law_other", "_law_due", "_law_handed", "_law_told", "_law_named", "e", "_law_based"]
theorem sc_Lno_way : FnScope n_Lno_way ["_law_one", "_law_other", "_law_due"] (defScope s_Lno_way) := ⟨rfl, rfl, rfl, by decide +kernel, rfl, by decide +kernel, by decide +kernel⟩
abbrev s_Lgood : Stmt := topS 26
abbrev n_Lgood : List Str := ["_law_one", "_law_other", "_law_handed", "_law_due", "_law_found", "_law_told", "_law_kept", "_law_again", "_law_turned"]
theorem sc_Lgood : FnScope n_Lgood ["_law_one", "_law_other"] (defScope s_Lgood) := ⟨rfl, rfl, rfl, by decide +kernel, rfl, by decide +kernel, by decide +kernel⟩
abbrev s_Lcell_at : Stmt := topS 15
abbrev n_Lcell_at : List Str := ["_law_script", "_law_k"]
theorem sc_Lcell_at : FnScope n_Lcell_at ["_law_script", "_law_k"] (defScope s_Lcell_at) := ⟨rfl, rfl, rfl, by decide +kernel, rfl, by decide +kernel, by decide +kernel⟩
abbrev s_Lone_back : Stmt := topS 19
abbrev n_Lone_back : List Str := ["_law_row", "_law_here", "_law_taker", "_law_giver"]
theorem sc_Lone_back : FnScope n_Lone_back ["_law_row"] (defScope s_Lone_back) := ⟨rfl, rfl, rfl, by decide +kernel, rfl, by decide +kernel, by decide +kernel⟩
abbrev s_Lpulled : Stmt := topS 18
abbrev n_Lpulled : List Str := ["_law_row", "_law_cells", "_law_here", "_law_k", "_law_at", "_law_giver", "_law_taker", "_law_amount"]
theorem sc_Lpulled : FnScope n_Lpulled ["_law_row", "_law_cells"] (defScope s_Lpulled) := ⟨rfl, rfl, rfl, by decide +kernel, rfl, by decide +kernel, by decide +kernel⟩
abbrev s_Lpurse : Stmt := topS 17
abbrev n_Lpurse : List Str := ["_law_cell", "_law_small"]
theorem sc_Lpurse : FnScope n_Lpurse ["_law_cell", "_law_small"] (defScope s_Lpurse) := ⟨rfl, rfl, rfl, by decide +kernel, rfl, by decide +kernel, by decide +kernel⟩
abbrev s_Lpair : Stmt := topS 20
abbrev n_Lpair : List Str := ["_law_script", "_law_small", "_law_cells", "_law_ones", "_law_others", "_law_rest", "_law_k"]
theorem sc_Lpair : FnScope n_Lpair ["_law_script"] (defScope s_Lpair) := ⟨rfl, rfl, rfl, by decide +kernel, rfl, by decide +kernel, by decide +kernel⟩
abbrev s_law : Stmt := topS 27
abbrev n_law : List Str := ["_law_script", "_law_one", "_law_other"]
theorem sc_law : FnScope n_law ["_law_script"] (defScope s_law) := ⟨rfl, rfl, rfl, by decide +kernel, rfl, by decide +kernel, by decide +kernel⟩
/-- built-in names that are still so -/
structure Bl (mg : Str → Option Value) : Prop where
  ValueError_ : mg "ValueError" = none
  bool_ : mg "bool" = none
  int_ : mg "int" = none
  isinstance_ : mg "isinstance" = none
  len_ : mg "len" = none
  list_ : mg "list" = none
  max_ : mg "max" = none
  min_ : mg "min" = none
  range_ : mg "range" = none
  sorted_ : mg "sorted" = none
  sum_ : mg "sum" = none
  tuple_ : mg "tuple" = none
/-! ### the script's cells -/
def cellAt (ns : List Int) (k : Int) : Int := if k < (ns.length : Int) then ns.getD k.toNat 0 else 0
def AllBd (n : Nat) (ns : List Int) : Prop := ∀ z ∈ ns, Bd n z
theorem bd0 (n : Nat) : Bd n 0 := Nat.pow_pos (by decide)
theorem AllBd.get {n : Nat} {ns : List Int} (h : AllBd n ns) (k : Nat) : Bd n (ns.getD k 0) := by
  rw [List.getD_eq_getElem?_getD]
  cases e : ns[k]? with
  | none => exact bd0 n
  | some z => exact h z (List.mem_of_getElem? e)
theorem AllBd.mono {n m : Nat} {ns : List Int} (h : AllBd n ns) (k : n ≤ m) : AllBd m ns := fun z hz => (h z hz).mono k
theorem AllBd.snoc {n : Nat} {ns : List Int} {z : Int} (h : AllBd n ns) (hz : Bd n z) : AllBd n (ns ++ [z]) := fun y hy => by
  rcases List.mem_append.mp hy with h1 | h1
  · exact h y h1
  · rw [List.mem_singleton.mp h1]
    exact hz
theorem AllBd.cell {n : Nat} {ns : List Int} (h : AllBd n ns) (k : Int) : Bd n (cellAt ns k) := by
  unfold cellAt
  split
  · exact h.get _
  · exact bd0 n
theorem at_getD {ns : List Int} {k : Int} (h0 : 0 ≤ k) (h : k < (ns.length : Int)) : atI (ns.map V.int) k = some (.int (ns.getD k.toNat 0)) := by
  have hk : k.toNat < ns.length := by omega
  have e : k = (k.toNat : Int) := by omega
  rw [e]
  exact Pm.atI_map (by rw [List.getD_eq_getElem?_getD, Int.toNat_natCast, List.getElem?_eq_getElem hk]; rfl)
/-- the script's k-th cell, or nought -/
def spLcell_at (K : PySem.W.Frag) : Sp := fun vs H Q _ => ∃ (a : Addr) (ns : List Int) (k : Int), vs = [.ref a, .int k] ∧ SqL K H a (ns.map V.int) ∧ 0 ≤ k ∧ KQ Q (.int (cellAt ns k)) H
theorem k_Lcell_at {K : PySem.W.Frag} {H : Hp} {P : V → Hp → Prop} {a : Addr} {ns : List Int} {k : Int} (h : SqL K H a (ns.map V.int)) (h0 : 0 ≤ k) (hp : P (.int (cellAt ns k)) H) : SpK (spLcell_at K) [.ref a, .int k] H P := fun _ H1 e Q q =>
  ⟨a, ns, k, rfl, ex_l e h, h0, fun H2 e2 => q _ _ ⟨H, e.trans e2, hp⟩⟩
theorem ixN_at {n : Nat} {k : Int} (h0 : 0 ≤ k) (h : k < (n : Int)) : ixN n k = some k.toNat := by
  unfold ixN
  rw [if_pos h0, if_pos h]
theorem map_set_int (ns : List Int) (i : Nat) (z : Int) : (ns.map V.int).set i (V.int z) = (ns.set i z).map V.int := List.map_set.symm
theorem refs_at {gs : List Addr} {i : Nat} {x : V} (h : (gs.map V.ref)[i]? = some x) : ∃ g, gs[i]? = some g ∧ x = V.ref g := by
  rw [List.getElem?_map] at h
  cases e : gs[i]? with
  | none => rw [e] at h; cases h
  | some z => rw [e] at h; exact ⟨z, rfl, (Option.some.inj h).symm⟩
theorem List.drop_eq_getElem_cons_of {α : Type} {l : List α} {i : Nat} {z : α} (h : l[i]? = some z) : l.drop i = z :: l.drop (i + 1) := by
  obtain ⟨h1, rfl⟩ := List.getElem?_eq_some_iff.mp h
  exact List.drop_eq_getElem_cons h1

/-- sizes -/
local macro_rules | `(tactic| walk_at "bd") => `(tactic| first
  | assumption
  | ((with_reducible refine Bd.add (n := ?n1) (m := ?m1) ?h1 ?h2); (case h1 => walk_at "bd"); (case h2 => walk_at "bd"))
  | ((with_reducible refine Bd.sub (n := ?n1) (m := ?m1) ?h1 ?h2); (case h1 => walk_at "bd"); (case h2 => walk_at "bd"))
  | ((with_reducible refine Bd.mul (n := ?n1) (m := ?m1) ?h1 ?h2); (case h1 => walk_at "bd"); (case h2 => walk_at "bd"))
  | ((with_reducible refine Bd.mod ?h1 ?h2); (case h1 => walk_at "bd"); (case h2 => first | decide | omega))
  | ((with_reducible refine Bd.div ?h1); (case h1 => walk_at "bd"))
  | exact AllBd.get (by assumption) _
  | exact AllBd.cell (by assumption) _
  | exact bd_lit _)
local macro_rules | `(tactic| walk_at "side") => `(tactic| first
  | ((with_reducible refine Bd.mulX (n := ?bn) (m := ?bm) ?b1 ?b2 ?sl); (case b1 => walk_at "bd"); (case b2 => walk_at "bd"); (case sl => decide +kernel))
  | (show (_ : Int) < _; decide)
  | (show (_ : Int) < _ ∧ _; decide)
  | (show (_ : Int) ≤ _ ∧ _; decide)
  | (show (_ : Int) < _; omega)
  | (show (_ : Int) < _ ∧ _; omega))
/-- one step of the calculus, by the head -/
local macro_rules | `(tactic| walk_at "k") => `(tactic| first
  | ((with_reducible refine k_var (v := ?kw) ?kv ?_); (case kv => exact rfl))
  | with_reducible refine k_c ?_
  | with_reducible refine k_op ?_
  | with_reducible refine k_cb ?_
  | with_reducible refine k_cons ?_
  | with_reducible refine k_nil ?_
  | with_reducible refine k_call ?_
  | with_reducible refine r_I0 ?_
  | ((with_reducible refine r_I' ?_ ?rc); (case rc => walk_at "side"))
  | with_reducible refine kt_test ?_
  | with_reducible refine kt_B ?_
  | with_reducible refine kt_or ?_
  | with_reducible refine kt_and ?_
  | with_reducible refine kt_not ?_
  | with_reducible refine k_tup ?_
  | with_reducible refine k_lst ?_
  | with_reducible refine k_ckw ?_
  | with_reducible refine k_bm ?_
  | with_reducible refine k_bm0 ?_
  | with_reducible refine k_sl ?_
  | with_reducible refine k_part ?_
  | with_reducible refine k_nopart ?_
  | with_reducible refine k_un ?_
  | with_reducible refine k_chain ?_
  | with_reducible refine k_andV ?_
  | with_reducible refine k_orV ?_
  | with_reducible refine k_notV ?_
  | with_reducible refine r_neg ?_
  | with_reducible refine r_eqI ?_
  | with_reducible refine r_neI ?_
  | with_reducible refine ⟨_, rfl, ?_⟩)
/-- a statement -/
local macro_rules | `(tactic| walk_at "s") => `(tactic| first
  | with_reducible refine gs_asg ?_
  | with_reducible refine gs_drop ?_
  | with_reducible refine gs_when ?_
  | with_reducible refine gs_if ?_
  | with_reducible refine gs_par ?_
  | with_reducible refine gs_set ?_
  | with_reducible refine g2_asg ?_
  | with_reducible refine g2_drop ?_
  | with_reducible refine g2_next ?_
  | with_reducible refine g2_par ?_
  | with_reducible refine g2_set ?_
  | with_reducible refine g1_asg ?_
  | with_reducible refine g1_drop ?_
  | with_reducible refine g1_ret ?_
  | with_reducible refine g1_if ?_
  | with_reducible refine g1_par ?_
  | with_reducible refine g1_set ?_)
local macro_rules | `(tactic| walk_at "ks") => `(tactic| repeat walk_at "k")

/-- what the top says of the refusals -/
structure TxtE (K : PySem.W.Frag) (mg : Str → Option Value) (C_PurseError C_NoGift C_Unlike C_Gap C_NoText : Addr) : Prop where
  g_PurseError : mg "PurseError" = some (.ref C_PurseError)
  g_NoGift : mg "NoGift" = some (.ref C_NoGift)
  g_Unlike : mg "Unlike" = some (.ref C_Unlike)
  g_Gap : mg "Gap" = some (.ref C_Gap)
  g_NoText : mg "NoText" = some (.ref C_NoText)
  k_Gap : PySem.W.keepIn K (.ref C_Gap) = true
  b_Gap : PySem.W.subIn K (.ref C_Gap) (.type "BaseException") = some true
  t_Gap : PySem.W.typeIn K (.ref C_Gap) = some (.type "type")
  e_PurseError : PySem.W.exmOne K (.ref C_Gap) (.ref C_PurseError) = some true
  e_NoGift : PySem.W.exmOne K (.ref C_Gap) (.ref C_NoGift) = some false
  e_Unlike : PySem.W.exmOne K (.ref C_Gap) (.ref C_Unlike) = some false
  e_NoText : PySem.W.exmOne K (.ref C_Gap) (.ref C_NoText) = some false
  e_Gap : PySem.W.exmOne K (.ref C_Gap) (.ref C_Gap) = some true
  CE : ExcC K C_Gap
  n_ValueError : PySem.W.kitOne K (.ref C_Gap) (.type "ValueError") = some true

def spLwholes (K : PySem.W.Frag) : Sp := fun vs H Q _ => ∃ (a : Addr) (ns : List Int), vs = [.ref a, .int (ns.length : Int)] ∧ H a = some (.lst (ns.map V.int)) ∧ KQ Q (.bl true) H
theorem k_Lwholes {K : PySem.W.Frag} {H : Hp} {P : V → Hp → Prop} {a : Addr} {ns : List Int} {m : Int} (hm : m = (ns.length : Int)) (h : H a = some (.lst (ns.map V.int))) (hp : P (.bl true) H) : SpK (spLwholes K) [.ref a, .int m] H P := fun _ H1 e Q q => by
  subst hm
  exact ⟨a, ns, rfl, e _ _ h, fun H2 e2 => q _ _ ⟨H, e.trans e2, hp⟩⟩
def spTops (K : PySem.W.Frag) : Sp := fun vs H Q _ => ∃ (a : Addr) (ns : List Int), vs = [.ref a] ∧ SqL K H a (ns.map V.int) ∧ ns.length ≤ 1000 ∧ ∀ p, H p = none → KQ Q (.ref p) (upd H p (.lst ((Pm.tops ns).map V.int)))
theorem k_tops {K : PySem.W.Frag} {H : Hp} {P : V → Hp → Prop} {a : Addr} {ns : List Int} (h : SqL K H a (ns.map V.int)) (hl : ns.length ≤ 1000) (hp : ∀ p, H p = none → P (.ref p) (upd H p (.lst ((Pm.tops ns).map V.int)))) : SpK (spTops K) [.ref a] H P := fun _ H1 e Q q =>
  ⟨a, ns, rfl, ex_l e h, hl, fun p np H2 e2 => q _ _ ⟨_, (Ex.updm e).trans e2, hp p (fresh_back e np)⟩⟩

/-- a gift's tuple at an address -/
def TupG (K : PySem.W.Frag) (H : Hp) (a : Addr) (z : Pg.Gift) : Prop := SqT K H a [.int z.1, .int z.2.1, .int z.2.2]
def spfits (K : PySem.W.Frag) : Sp := fun vs H Q _ => ∃ (a b : Addr) (ns : List Int) (z : Pg.Gift), vs = [.ref a, .ref b] ∧ SqL K H a (ns.map V.int) ∧ TupG K H b z ∧ KQ Q (.bl (Pg.fitsB ns z.1 z.2.1 z.2.2)) H
theorem k_fits {K : PySem.W.Frag} {H : Hp} {P : V → Hp → Prop} {a b : Addr} {ns : List Int} {z : Pg.Gift} (h : SqL K H a (ns.map V.int)) (hz : TupG K H b z) (hp : P (.bl (Pg.fitsB ns z.1 z.2.1 z.2.2)) H) : SpK (spfits K) [.ref a, .ref b] H P := fun _ H1 e Q q =>
  ⟨a, b, ns, z, rfl, ex_l e h, ex_t e hz, fun H2 e2 => q _ _ ⟨H, e.trans e2, hp⟩⟩
def spdone (K : PySem.W.Frag) (C : Addr) : Sp := fun vs H Q E => ∃ (a b : Addr) (ns : List Int) (z : Pg.Gift), vs = [.ref a, .ref b] ∧ SqL K H a (ns.map V.int) ∧ TupG K H b z ∧
  (¬ Pg.Fits ns z.1 z.2.1 z.2.2 → KE E (.ref C) none H) ∧ (Pg.Fits ns z.1 z.2.1 z.2.2 → ∀ p, H p = none → KQ Q (.ref p) (upd H p (.lst ((Pg.done ns z.1 z.2.1 z.2.2).map V.int))))
theorem k_done {K : PySem.W.Frag} {C : Addr} {E : XK} {H : Hp} {P : V → Hp → Prop} {a b : Addr} {ns : List Int} {z : Pg.Gift} (h : SqL K H a (ns.map V.int)) (hz : TupG K H b z) (he : ¬ Pg.Fits ns z.1 z.2.1 z.2.2 → KE E (.ref C) none H)
    (hp : Pg.Fits ns z.1 z.2.1 z.2.2 → ∀ p, H p = none → P (.ref p) (upd H p (.lst ((Pg.done ns z.1 z.2.1 z.2.2).map V.int)))) : Kc (fun H Q => spdone K C [.ref a, .ref b] H Q E) H P := fun H1 e Q q =>
  ⟨a, b, ns, z, rfl, ex_l e h, ex_t e hz, fun n => (he n).up e, fun y p np H2 e2 => q _ _ ⟨_, (Ex.updm e).trans e2, hp y p (fresh_back e np)⟩⟩
/-- a list of gifts -/
structure GfL (K : PySem.W.Frag) (H : Hp) (a : Addr) (gs : List Addr) (Gs : List Pg.Gift) : Prop where
  lst : SqL K H a (gs.map V.ref)
  len : gs.length = Gs.length
  tup : ∀ (i : Nat) g z, gs[i]? = some g → Gs[i]? = some z → TupG K H g z
theorem GfL.up {K : PySem.W.Frag} {H H' : Hp} {a : Addr} {gs : List Addr} {Gs : List Pg.Gift} (h : GfL K H a gs Gs) (e : Ex H H') : GfL K H' a gs Gs := ⟨ex_l e h.lst, h.len, fun i g z x y => ex_t e (h.tup i g z x y)⟩
def spwalked (K : PySem.W.Frag) (C : Addr) : Sp := fun vs H Q E => ∃ (a b : Addr) (ns : List Int) (gs : List Addr) (Gs : List Pg.Gift), vs = [.ref a, .ref b] ∧ SqL K H a (ns.map V.int) ∧ GfL K H b gs Gs ∧
  (Pg.walk ns Gs = none → KE E (.ref C) none H) ∧ (∀ ms, Pg.walk ns Gs = some ms → ∀ p, H p = none → KQ Q (.ref p) (upd H p (.lst (ms.map V.int))))
theorem k_walked {K : PySem.W.Frag} {C : Addr} {E : XK} {H : Hp} {P : V → Hp → Prop} {a b : Addr} {ns : List Int} {gs : List Addr} {Gs : List Pg.Gift} (h : SqL K H a (ns.map V.int)) (hz : GfL K H b gs Gs) (he : Pg.walk ns Gs = none → KE E (.ref C) none H)
    (hp : ∀ ms, Pg.walk ns Gs = some ms → ∀ p, H p = none → P (.ref p) (upd H p (.lst (ms.map V.int)))) : Kc (fun H Q => spwalked K C [.ref a, .ref b] H Q E) H P := fun H1 e Q q =>
  ⟨a, b, ns, gs, Gs, rfl, ex_l e h, hz.up e, fun n => (he n).up e, fun ms y p np H2 e2 => q _ _ ⟨_, (Ex.updm e).trans e2, hp ms y p (fresh_back e np)⟩⟩

theorem snoc_at {α : Type} {l : List α} {x : α} {i : Nat} {y : α} (h : (l ++ [x])[i]? = some y) : (i < l.length ∧ l[i]? = some y) ∨ (i = l.length ∧ y = x) := by
  by_cases c : i < l.length
  · rw [List.getElem?_append_left c] at h
    exact .inl ⟨c, h⟩
  · have hi : i = l.length := by
      have h1 := (List.getElem?_eq_some_iff.mp h).1
      rw [List.length_append] at h1
      simp at h1
      omega
    subst hi
    rw [List.getElem?_append_right (Nat.le_refl _), Nat.sub_self] at h
    exact .inr ⟨rfl, (Option.some.inj h).symm⟩
theorem dpa_gifts {K : PySem.W.Frag} {H : Hp} : ∀ {gs : List Addr} {Gs : List Pg.Gift}, gs.length = Gs.length → (∀ (i : Nat) g z, gs[i]? = some g → Gs[i]? = some z → TupG K H g z) → DpAll K H (gs.map V.ref) (Gs.map fun z => PyData.tuple [.int z.1, .int z.2.1, .int z.2.2])
  | [], [], _, _ => .nil
  | g :: gs, z :: Gs, h, k => .cons (.tup (k 0 g z rfl rfl) (.cons (.int _) (.cons (.int _) (.cons (.int _) .nil)))) (dpa_gifts (by simpa using h) fun i x y hx hy => k (i + 1) x y hx hy)
  | [], _ :: _, h, _ => by cases h
  | _ :: _, [], h, _ => by cases h
theorem dp_gifts {K : PySem.W.Frag} {H : Hp} {a : Addr} {gs : List Addr} {Gs : List Pg.Gift} (h : GfL K H a gs Gs) : Dp K H (.ref a) (.list (Gs.map fun z => PyData.tuple [.int z.1, .int z.2.1, .int z.2.2])) := .lst h.lst (dpa_gifts h.len h.tup)
theorem lay_gifts : ∀ Gs : List Pg.Gift, PyData.canLayAll0 (Gs.map fun z => PyData.tuple [.int z.1, .int z.2.1, .int z.2.2]) = true
  | [] => rfl
  | z :: Gs => by
    show (PyData.canLay0 (.tuple [.int z.1, .int z.2.1, .int z.2.2]) && PyData.canLayAll0 (Gs.map fun z => PyData.tuple [.int z.1, .int z.2.1, .int z.2.2])) = true
    rw [lay_gifts Gs]
    rfl
theorem dep_gifts : ∀ Gs : List Pg.Gift, PyData.depthAll (Gs.map fun z => PyData.tuple [.int z.1, .int z.2.1, .int z.2.2]) ≤ 1
  | [] => Nat.zero_le _
  | z :: Gs => by
    show max (PyData.depth (.tuple [.int z.1, .int z.2.1, .int z.2.2])) (PyData.depthAll (Gs.map fun z => PyData.tuple [.int z.1, .int z.2.1, .int z.2.2])) ≤ 1
    exact Nat.max_le.mpr ⟨(by decide : (1 : Nat) ≤ 1), dep_gifts Gs⟩
theorem sh_gifts (Gs : List Pg.Gift) : SeqAt.shaped (.list (Gs.map fun z => PyData.tuple [.int z.1, .int z.2.1, .int z.2.2])) = true := by
  show (PyData.canLayAll0 (Gs.map fun z => PyData.tuple [.int z.1, .int z.2.1, .int z.2.2]) && decide (PyData.depthAll (Gs.map fun z => PyData.tuple [.int z.1, .int z.2.1, .int z.2.2]) + 1 ≤ 64)) = true
  have h := dep_gifts Gs
  rw [lay_gifts, decide_eq_true (by omega)]
  rfl

/-- a list of gifts that is one's own -/
structure GfH (H : Hp) (a : Addr) (gs : List Addr) (Gs : List Pg.Gift) : Prop where
  lst : H a = some (.lst (gs.map V.ref))
  len : gs.length = Gs.length
  tup : ∀ (i : Nat) g z, gs[i]? = some g → Gs[i]? = some z → H g = some (.tup [.int z.1, .int z.2.1, .int z.2.2])
theorem GfH.up {H H' : Hp} {a : Addr} {gs : List Addr} {Gs : List Pg.Gift} (h : GfH H a gs Gs) (e : Ex H H') : GfH H' a gs Gs := ⟨e _ _ h.lst, h.len, fun i g z x y => e _ _ (h.tup i g z x y)⟩
theorem GfH.gfl {K : PySem.W.Frag} {H : Hp} {a : Addr} {gs : List Addr} {Gs : List Pg.Gift} (h : GfH H a gs Gs) : GfL K H a gs Gs := ⟨sq_of h.lst, h.len, fun i g z x y => st_of (h.tup i g z x y)⟩
theorem GfH.mut {H : Hp} {a h : Addr} {gs : List Addr} {Gs : List Pg.Gift} {ys zs : List V} (x : GfH H a gs Gs) (hh : H h = some (.lst ys)) (hn : a ≠ h) : GfH (upd H h (.lst zs)) a gs Gs := ⟨by rw [upd_ne hn]; exact x.lst, x.len, fun i g z h1 h2 => by
  have k := x.tup i g z h1 h2
  rw [upd_ne fun e => by subst e; rw [hh] at k; cases k]
  exact k⟩
/-- one gift more, at q: the list is written anew at b -/
theorem GfH.snoc {H H' : Hp} {a b q : Addr} {gs : List Addr} {Gs : List Pg.Gift} {z : Pg.Gift} (h : GfH H a gs Gs) (hb : H' b = some (.lst ((gs ++ [q]).map V.ref))) (ht : ∀ g u, H g = some (.tup u) → H' g = some (.tup u)) (hq : H' q = some (.tup [.int z.1, .int z.2.1, .int z.2.2])) : GfH H' b (gs ++ [q]) (Gs ++ [z]) := by
  refine ⟨hb, by rw [List.length_append, List.length_append, h.len]; rfl, fun i g u hg hu => ?_⟩
  rcases snoc_at hg with ⟨h1, h2⟩ | ⟨h1, h2⟩
  · rw [List.getElem?_append_left (by rw [← h.len]; exact h1)] at hu
    exact ht _ _ (h.tup i g u h2 hu)
  · rw [List.getElem?_append_right (by rw [← h.len]; omega), h1, h.len, Nat.sub_self] at hu
    have e1 : z = u := Option.some.inj hu
    subst e1 h2
    exact hq

def lamT (Pt : Addr) : List (Addr × Str) := [(Pt, (envOfC "way" (defScope s_way) 0 0 .none).qual ++ "<lambda>")]
def sptogether (K : PySem.W.Frag) : Sp := fun vs H Q _ => ∃ (a b : Addr) (ns ms : List Int), vs = [.ref a, .ref b] ∧ SqL K H a (ns.map V.int) ∧ SqL K H b (ms.map V.int) ∧ Pw.Alike ns ms ∧ KQ Q .non H
theorem k_together {K : PySem.W.Frag} {H : Hp} {P : V → Hp → Prop} {a b : Addr} {ns ms : List Int} (h : SqL K H a (ns.map V.int)) (h2 : SqL K H b (ms.map V.int)) (al : Pw.Alike ns ms) (hp : P .non H) : SpK (sptogether K) [.ref a, .ref b] H P := fun _ H1 e Q q =>
  ⟨a, b, ns, ms, rfl, ex_l e h, ex_l e h2, al, fun H2 e2 => q _ _ ⟨_, e.trans e2, hp⟩⟩
def spgap (K : PySem.W.Frag) : Sp := fun vs H Q _ => ∃ (a b : Addr) (ns ms : List Int), vs = [.ref a, .ref b] ∧ SqL K H a (ns.map V.int) ∧ SqL K H b (ms.map V.int) ∧ ns.length ≤ 500 ∧ Pw.Alike ns ms ∧ ∀ o, Pw.GapIs ns ms o → KQ Q (Pw.oV o) H
theorem k_gap {K : PySem.W.Frag} {H : Hp} {P : V → Hp → Prop} {a b : Addr} {ns ms : List Int} (h : SqL K H a (ns.map V.int)) (h2 : SqL K H b (ms.map V.int)) (hl : ns.length ≤ 500) (al : Pw.Alike ns ms) (hp : ∀ o, Pw.GapIs ns ms o → P (Pw.oV o) H) : SpK (spgap K) [.ref a, .ref b] H P := fun _ H1 e Q q =>
  ⟨a, b, ns, ms, rfl, ex_l e h, ex_l e h2, hl, al, fun o g H2 e2 => q _ _ ⟨_, e.trans e2, hp o g⟩⟩
def spdues (K : PySem.W.Frag) : Sp := fun vs H Q _ => ∃ (a b : Addr) (ns ms : List Int), vs = [.ref a, .ref b] ∧ SqL K H a (ns.map V.int) ∧ SqL K H b (ms.map V.int) ∧ ns.length ≤ 500 ∧ Pw.Alike ns ms ∧ KQ Q (.int (Pw.dues ns ms)) H
theorem k_dues {K : PySem.W.Frag} {H : Hp} {P : V → Hp → Prop} {a b : Addr} {ns ms : List Int} (h : SqL K H a (ns.map V.int)) (h2 : SqL K H b (ms.map V.int)) (hl : ns.length ≤ 500) (al : Pw.Alike ns ms) (hp : P (.int (Pw.dues ns ms)) H) : SpK (spdues K) [.ref a, .ref b] H P := fun _ H1 e Q q =>
  ⟨a, b, ns, ms, rfl, ex_l e h, ex_l e h2, hl, al, fun H2 e2 => q _ _ ⟨_, e.trans e2, hp⟩⟩
def splast_above (K : PySem.W.Frag) : Sp := fun vs H Q _ => ∃ (a b : Addr) (A B : List Int), vs = [.ref a, .ref b] ∧ SqL K H a (A.map V.int) ∧ SqL K H b (B.map V.int) ∧ A.length ≤ 500 ∧ A.length = B.length ∧ ∀ o, Pv.LastAb A B o → KQ Q (Pw.oV o) H
theorem k_last_above {K : PySem.W.Frag} {H : Hp} {P : V → Hp → Prop} {a b : Addr} {A B : List Int} (h : SqL K H a (A.map V.int)) (h2 : SqL K H b (B.map V.int)) (hl : A.length ≤ 500) (he : A.length = B.length) (hp : ∀ o, Pv.LastAb A B o → P (Pw.oV o) H) : SpK (splast_above K) [.ref a, .ref b] H P := fun _ H1 e Q q =>
  ⟨a, b, A, B, rfl, ex_l e h, ex_l e h2, hl, he, fun o g H2 e2 => q _ _ ⟨_, e.trans e2, hp o g⟩⟩
def spnext_below (K : PySem.W.Frag) : Sp := fun vs H Q _ => ∃ (a b : Addr) (A B : List Int) (r : Nat), vs = [.ref a, .ref b, .int (r : Int)] ∧ SqL K H a (A.map V.int) ∧ SqL K H b (B.map V.int) ∧ A.length = B.length ∧ (∃ i, r < i ∧ i < A.length ∧ A.getD i 0 < B.getD i 0) ∧ ∀ l : Nat, Pv.Low A B r l → KQ Q (.int (l : Int)) H
theorem k_next_below {K : PySem.W.Frag} {H : Hp} {P : V → Hp → Prop} {a b : Addr} {A B : List Int} {r : Nat} (h : SqL K H a (A.map V.int)) (h2 : SqL K H b (B.map V.int)) (he : A.length = B.length) (hx : ∃ i, r < i ∧ i < A.length ∧ A.getD i 0 < B.getD i 0) (hp : ∀ l : Nat, Pv.Low A B r l → P (.int (l : Int)) H) : SpK (spnext_below K) [.ref a, .ref b, .int (r : Int)] H P := fun _ H1 e Q q =>
  ⟨a, b, A, B, r, rfl, ex_l e h, ex_l e h2, he, hx, fun o g H2 e2 => q _ _ ⟨_, e.trans e2, hp o g⟩⟩

def spLdues (K : PySem.W.Frag) : Sp := fun vs H Q _ => ∃ (a b : Addr) (ns ms : List Int), vs = [.ref a, .ref b] ∧ SqL K H a (ns.map V.int) ∧ SqL K H b (ms.map V.int) ∧ ns.length ≤ 500 ∧ ns.length = ms.length ∧ KQ Q (.int (Pw.dues ns ms)) H
theorem k_Ldues {K : PySem.W.Frag} {H : Hp} {P : V → Hp → Prop} {a b : Addr} {ns ms : List Int} (h : SqL K H a (ns.map V.int)) (h2 : SqL K H b (ms.map V.int)) (hl : ns.length ≤ 500) (he : ns.length = ms.length) (hp : P (.int (Pw.dues ns ms)) H) : SpK (spLdues K) [.ref a, .ref b] H P := fun _ H1 e Q q =>
  ⟨a, b, ns, ms, rfl, ex_l e h, ex_l e h2, hl, he, fun H2 e2 => q _ _ ⟨_, e.trans e2, hp⟩⟩
def spLwhole (K : PySem.W.Frag) : Sp := fun vs H Q _ => ∃ (i : Int), vs = [.int i] ∧ KQ Q (.bl true) H
theorem k_Lwhole {K : PySem.W.Frag} {H : Hp} {P : V → Hp → Prop} {i : Int} (hp : P (.bl true) H) : SpK (spLwhole K) [.int i] H P := fun _ H1 e Q q => ⟨i, rfl, fun H2 e2 => q _ _ ⟨_, e.trans e2, hp⟩⟩

/-- the law's own -/
def spLgap (K : PySem.W.Frag) : Sp := fun vs H Q _ => ∃ (a b : Addr) (ns ms : List Int), vs = [.ref a, .ref b] ∧ SqL K H a (ns.map V.int) ∧ SqL K H b (ms.map V.int) ∧ ns.length ≤ 500 ∧ ns.length = ms.length ∧ ∀ o, Pw.GapIs ns ms o → KQ Q (Pw.oV o) H
theorem k_Lgap {K : PySem.W.Frag} {H : Hp} {P : V → Hp → Prop} {a b : Addr} {ns ms : List Int} (h : SqL K H a (ns.map V.int)) (h2 : SqL K H b (ms.map V.int)) (hl : ns.length ≤ 500) (he : ns.length = ms.length) (hp : ∀ o, Pw.GapIs ns ms o → P (Pw.oV o) H) : SpK (spLgap K) [.ref a, .ref b] H P := fun _ H1 e Q q =>
  ⟨a, b, ns, ms, rfl, ex_l e h, ex_l e h2, hl, he, fun o g H2 e2 => q _ _ ⟨_, e.trans e2, hp o g⟩⟩

theorem c_sortedA {K : PySem.W.Frag} {H : Hp} {P : V → Hp → Prop} {a : Addr} {ns : List Int} (h : SqL K H a (ns.map V.int)) (hp : ∀ p, H p = none → P (.ref p) (upd H p (.lst ((Pm.sd ns).reverse.map V.int)))) : CK (rSortedI K) [.ref a] H P := fun H1 e Q k =>
  ⟨a, ns, rfl, ex_l e h, fun ns' p h1 h2 np => by
    have e2 : ns'.reverse = Pm.sd ns := Pm.sd_uniq ((List.reverse_perm ns').trans h1) (List.pairwise_reverse.mpr h2)
    rw [show ns' = (Pm.sd ns).reverse by rw [← e2, List.reverse_reverse]]
    exact k _ _ ⟨_, Ex.updm e, hp p (fresh_back e np)⟩⟩
def spLis_gift (K : PySem.W.Frag) : Sp := fun vs H Q _ => ∃ (a b : Addr) (z : Pg.Gift) (ns : List Int), vs = [.ref a, .ref b] ∧ H a = some (.tup [.int z.1, .int z.2.1, .int z.2.2]) ∧ SqL K H b (ns.map V.int) ∧ Pg.Fits ns z.1 z.2.1 z.2.2 ∧ KQ Q (.bl true) H
theorem k_Lis_gift {K : PySem.W.Frag} {H : Hp} {P : V → Hp → Prop} {a b : Addr} {z : Pg.Gift} {ns : List Int} (h : H a = some (.tup [.int z.1, .int z.2.1, .int z.2.2])) (h2 : SqL K H b (ns.map V.int)) (f : Pg.Fits ns z.1 z.2.1 z.2.2) (hp : P (.bl true) H) : SpK (spLis_gift K) [.ref a, .ref b] H P := fun _ H1 e Q q =>
  ⟨a, b, z, ns, rfl, e _ _ h, ex_l e h2, f, fun H2 e2 => q _ _ ⟨_, e.trans e2, hp⟩⟩
def spLleads (K : PySem.W.Frag) : Sp := fun vs H Q _ => ∃ (a b g : Addr) (ns ms : List Int) (gs : List Addr) (Gs : List Pg.Gift), vs = [.ref a, .ref b, .ref g] ∧ SqL K H a (ns.map V.int) ∧ SqL K H b (ms.map V.int) ∧ GfH H g gs Gs ∧ ns.length ≤ 300 ∧ ns.length = ms.length ∧ Pv.Leads ns ms Gs ∧ KQ Q (.bl true) H
theorem k_Lleads {K : PySem.W.Frag} {H : Hp} {P : V → Hp → Prop} {a b g : Addr} {ns ms : List Int} {gs : List Addr} {Gs : List Pg.Gift} (h1 : SqL K H a (ns.map V.int)) (h2 : SqL K H b (ms.map V.int)) (h3 : GfH H g gs Gs) (hl : ns.length ≤ 300) (he : ns.length = ms.length) (L : Pv.Leads ns ms Gs) (hp : P (.bl true) H) : SpK (spLleads K) [.ref a, .ref b, .ref g] H P := fun _ H1 e Q q =>
  ⟨a, b, g, ns, ms, gs, Gs, rfl, ex_l e h1, ex_l e h2, h3.up e, hl, he, L, fun H2 e2 => q _ _ ⟨_, e.trans e2, hp⟩⟩

/-- the class statement's first def -/
def clsDef : Stmt → Stmt
  | .ClassDef _ _ _ body _ _ _ _ _ _ _ => body.headD (.Pass ⟨0, 0, 0, 0⟩)
  | s => s
abbrev s_init : Stmt := clsDef (topS 4)
abbrev n_init : List Str := ["self", "at"]
theorem sc_init : FnScope n_init ["self", "at"] (defScope s_init) := ⟨rfl, rfl, rfl, by decide +kernel, rfl, by decide +kernel, by decide +kernel⟩
/-- what the top says of Gap -/
structure GapT (K : PySem.W.Frag) (C P fI : Addr) : Prop where
  oG : OexC K C
  no : PySem.W.findIn K (.ref C) "at" = some none
  iC : PySem.W.findIn K (.ref C) "__init__" = some (some (.ref fI))
  tI : PySem.W.typeIn K (.ref fI) = some (.type "function")
  xf : XfC K C
  cl : (PySem.W.clsIn K C).isSome = true
  rd : PySem.W.readsIn K P (.type "type") = true
  ga : PySem.W.specialIn K (.ref P) "__getattribute__" = some (some (.builtin "type.__getattribute__"))
  vV : PySem.W.findCls K (.ref P) (.type "type") "__init__" = some (.val (.builtin "ValueError.__init__"))
def spLpurse (K : PySem.W.Frag) : Sp := fun vs H Q _ => ∃ (c : Int) (s : Bool), vs = [.int c, .bl s] ∧ ∀ z : Int, Bd 210 z → KQ Q (.int z) H
theorem k_Lpurse {K : PySem.W.Frag} {H : Hp} {P : V → Hp → Prop} {c : Int} {s : Bool} (hp : ∀ z : Int, Bd 210 z → P (.int z) H) : SpK (spLpurse K) [.int c, .bl s] H P := fun _ H1 e Q q =>
  ⟨c, s, rfl, fun z hz H2 e2 => q _ _ ⟨H, e.trans e2, hp z hz⟩⟩
/-- a row from which an amount has gone from place to place -/
def pull (l : List Int) (g t : Nat) (a : Int) : List Int := (l.set g (l.getD g 0 - a)).set t ((l.set g (l.getD g 0 - a)).getD t 0 + a)
theorem pull_len (l : List Int) (g t : Nat) (a : Int) : (pull l g t a).length = l.length := by
  unfold pull
  rw [List.length_set, List.length_set]
theorem pull_sum {l : List Int} {g t : Nat} {a : Int} (hg : g < l.length) (ht : t < l.length) : (pull l g t a).sum = l.sum := by
  unfold pull
  rw [Pt.set_sum _ _ _ (by rw [List.length_set]; exact ht), Pt.set_sum _ _ _ hg]
  omega
theorem bd_betw {n : Nat} {x y z : Int} (hx : Bd n x) (hy : Bd n y) (h1 : x ≤ z) (h2 : z ≤ y) : Bd n z := by
  unfold Bd at *
  omega
theorem pull_bd {n : Nat} {l : List Int} {g t : Nat} {a : Int} (hg : g < l.length) (ht : t < l.length) (h0 : 0 ≤ a) (h1 : a ≤ l.getD g 0 - l.getD t 0) (hb : AllBd n l) : AllBd n (pull l g t a) := by
  have bg : Bd n (l.getD g 0) := hb.get _
  have bt : Bd n (l.getD t 0) := hb.get _
  have b1 : Bd n (l.getD g 0 - a) := bd_betw bt bg (by omega) (by omega)
  have hb1 : AllBd n (l.set g (l.getD g 0 - a)) := fun z hz => by
    rcases List.mem_or_eq_of_mem_set hz with h | h
    · exact hb z h
    · rw [h]; exact b1
  have e : (l.set g (l.getD g 0 - a)).getD t 0 = if t = g then l.getD g 0 - a else l.getD t 0 := by
    by_cases c : t = g
    · subst c
      rw [if_pos rfl, List.getD_eq_getElem?_getD, List.getElem?_set_self hg]
      rfl
    · rw [if_neg c, List.getD_eq_getElem?_getD, List.getElem?_set_ne (Ne.symm c), ← List.getD_eq_getElem?_getD]
  unfold pull
  intro z hz
  rcases List.mem_or_eq_of_mem_set hz with h | h
  · exact hb1 z h
  · rw [h, e]
    split
    · rw [show l.getD g 0 - a + a = l.getD g 0 by omega]
      exact bg
    · exact bd_betw bt bg (by omega) (by omega)
theorem share_le {d c : Int} (h : 0 ≤ d) (c0 : 0 ≤ c) (c1 : c ≤ 96) : 0 ≤ d * c / 96 ∧ d * c / 96 ≤ d := by
  have h1 : d * c ≤ d * 96 := Int.mul_le_mul_of_nonneg_left c1 h
  have h2 := Int.ediv_le_ediv (show (0 : Int) < 96 by decide) h1
  rw [Int.mul_ediv_cancel _ (by decide)] at h2
  exact ⟨Int.ediv_nonneg (Int.mul_nonneg h c0) (by decide), h2⟩
def spLpulled (K : PySem.W.Frag) : Sp := fun vs H Q _ => ∃ (a c : Addr) (ns cs : List Int), vs = [.ref a, .ref c] ∧ SqL K H a (ns.map V.int) ∧ SqL K H c (cs.map V.int) ∧ AllBd 210 ns ∧ AllBd 1048576 cs ∧ 0 < ns.length ∧ cs.length / 2 ≤ ns.length ∧ ns.length ≤ 64 ∧ ∀ p ms H', Ex H H' → H' p = some (.lst (ms.map V.int)) → Pw.Alike ns ms → KQ Q (.ref p) H'
theorem k_Lpulled {K : PySem.W.Frag} {H : Hp} {P : V → Hp → Prop} {a c : Addr} {ns cs : List Int} (h : SqL K H a (ns.map V.int)) (h2 : SqL K H c (cs.map V.int)) (hb : AllBd 210 ns) (hb2 : AllBd 1048576 cs) (h0 : 0 < ns.length) (hc : cs.length / 2 ≤ ns.length) (hl : ns.length ≤ 64) (hp : ∀ p ms H', Ex H H' → H' p = some (.lst (ms.map V.int)) → Pw.Alike ns ms → P (.ref p) H') : SpK (spLpulled K) [.ref a, .ref c] H P := fun _ H1 e Q q =>
  ⟨a, c, ns, cs, rfl, ex_l e h, ex_l e h2, hb, hb2, h0, hc, hl, fun p ms H' e' h1 al H2 e2 => q _ _ ⟨H', e2, hp p ms H' (e.trans e') h1 al⟩⟩
def spLone_back (K : PySem.W.Frag) : Sp := fun vs H Q _ => ∃ (a : Addr) (ns : List Int), vs = [.ref a] ∧ SqL K H a (ns.map V.int) ∧ 0 < ns.length ∧ ns.length ≤ 64 ∧ ∀ p ms H', Ex H H' → H' p = some (.lst (ms.map V.int)) → Pw.Alike ns ms → KQ Q (.ref p) H'
theorem k_Lone_back {K : PySem.W.Frag} {H : Hp} {P : V → Hp → Prop} {a : Addr} {ns : List Int} (h : SqL K H a (ns.map V.int)) (h0 : 0 < ns.length) (hl : ns.length ≤ 64) (hp : ∀ p ms H', Ex H H' → H' p = some (.lst (ms.map V.int)) → Pw.Alike ns ms → P (.ref p) H') : SpK (spLone_back K) [.ref a] H P := fun _ H1 e Q q =>
  ⟨a, ns, rfl, ex_l e h, h0, hl, fun p ms H' e' h1 al H2 e2 => q _ _ ⟨H', e2, hp p ms H' (e.trans e') h1 al⟩⟩
def spLpair (K : PySem.W.Frag) : Sp := fun vs H Q _ => ∃ (a : Addr) (ss : List Int), vs = [.ref a] ∧ SqL K H a (ss.map V.int) ∧ ss.length ≤ 63 ∧ AllBd 1048576 ss ∧ ∀ (p x y : Addr) (ns ms : List Int) H', Ex H H' → SqT K H' p [.ref x, .ref y] → SqL K H' x (ns.map V.int) → SqL K H' y (ms.map V.int) → Pw.Alike ns ms → ns.length ≤ 200 → KQ Q (.ref p) H'
theorem k_Lpair {K : PySem.W.Frag} {H : Hp} {P : V → Hp → Prop} {a : Addr} {ss : List Int} (h : SqL K H a (ss.map V.int)) (hl : ss.length ≤ 63) (hb : AllBd 1048576 ss) (hp : ∀ (p x y : Addr) (ns ms : List Int) H', Ex H H' → SqT K H' p [.ref x, .ref y] → SqL K H' x (ns.map V.int) → SqL K H' y (ms.map V.int) → Pw.Alike ns ms → ns.length ≤ 200 → P (.ref p) H') : SpK (spLpair K) [.ref a] H P := fun _ H1 e Q q =>
  ⟨a, ss, rfl, ex_l e h, hl, hb, fun p x y ns ms H' e' h1 h2 h3 h4 h5 H2 e2 => q _ _ ⟨H', e2, hp p x y ns ms H' (e.trans e') h1 h2 h3 h4 h5⟩⟩
theorem GfH.upN {H H' : Hp} {a : Addr} {gs : List Addr} {Gs : List Pg.Gift} (h : GfH H a gs Gs) (e : ExtN H H') : GfH H' a gs Gs := ⟨e _ _ h.lst fun ps z => (by cases z), h.len, fun i g z x y => e _ _ (h.tup i g z x y) fun ps z => (by cases z)⟩
def spway (K : PySem.W.Frag) (Pt C : Addr) : Sp := fun vs H Q E => ∃ (a b : Addr) (ns ms : List Int), vs = [.ref a, .ref b] ∧ SqL K H a (ns.map V.int) ∧ SqL K H b (ms.map V.int) ∧ ns.length ≤ 300 ∧ Pw.Alike ns ms ∧ Tabs (lamT Pt) H ∧ (∀ k : Nat, Pw.GapIs ns ms (some k) → ∀ d H', Ex H H' → H' d = some (.xd [("at", .int (k : Int))]) → KE E (.ref C) (some d) H') ∧
  (Pw.GapIs ns ms none → ∀ gs Gs p H', ExtN H H' → Tabs (lamT Pt) H' → (∀ xs, H p ≠ some (.lst xs)) → GfH H' p gs Gs → Pv.Leads ns ms Gs → KQ Q (.ref p) H')
theorem k_way {K : PySem.W.Frag} {Pt C : Addr} {H : Hp} {P : V → Hp → Prop} {E : XK} {a b : Addr} {ns ms : List Int} (h : SqL K H a (ns.map V.int)) (h2 : SqL K H b (ms.map V.int)) (hl : ns.length ≤ 300) (al : Pw.Alike ns ms) (ht : Tabs (lamT Pt) H) (he : ∀ k : Nat, Pw.GapIs ns ms (some k) → ∀ d H', Ex H H' → H' d = some (.xd [("at", .int (k : Int))]) → KE E (.ref C) (some d) H')
    (hp : Pw.GapIs ns ms none → ∀ gs Gs p H', ExtN H H' → Tabs (lamT Pt) H' → (∀ xs, H p ≠ some (.lst xs)) → GfH H' p gs Gs → Pv.Leads ns ms Gs → P (.ref p) H') : Kc (fun H Q => spway K Pt C [.ref a, .ref b] H Q E) H P := fun H1 e Q q =>
  ⟨a, b, ns, ms, rfl, ex_l e h, ex_l e h2, hl, al, ht.ext e, fun k g d H' e' h => he k g d H' (e.trans e') h, fun g gs Gs p H' eN t' np hg hL H2 e2 => q _ _ ⟨H', e2, hp g gs Gs p H' ((ExtN.of e).trans eN) t' (fun xs h => np xs (e _ _ h)) hg hL⟩⟩
def spLno_way (K : PySem.W.Frag) (Pt : Addr) : Sp := fun vs H Q _ => ∃ (a b : Addr) (k : Nat) (ns ms : List Int), vs = [.ref a, .ref b, .int (k : Int)] ∧ SqL K H a (ns.map V.int) ∧ SqL K H b (ms.map V.int) ∧ ns.length ≤ 300 ∧ Pw.Alike ns ms ∧ Pw.GapIs ns ms (some k) ∧ Tabs (lamT Pt) H ∧ KQ Q (.bl true) H
theorem k_Lno_way {K : PySem.W.Frag} {Pt : Addr} {H : Hp} {P : V → Hp → Prop} {a b : Addr} {k : Nat} {ns ms : List Int} (h : SqL K H a (ns.map V.int)) (h2 : SqL K H b (ms.map V.int)) (hl : ns.length ≤ 300) (al : Pw.Alike ns ms) (g : Pw.GapIs ns ms (some k)) (ht : Tabs (lamT Pt) H) (hp : P (.bl true) H) : SpK (spLno_way K Pt) [.ref a, .ref b, .int (k : Int)] H P := fun _ H1 e Q q =>
  ⟨a, b, k, ns, ms, rfl, ex_l e h, ex_l e h2, hl, al, g, ht.ext e, fun H2 e2 => q _ _ ⟨_, e.trans e2, hp⟩⟩
def spLgood (K : PySem.W.Frag) (Pt : Addr) : Sp := fun vs H Q _ => ∃ (a b : Addr) (ns ms : List Int), vs = [.ref a, .ref b] ∧ SqL K H a (ns.map V.int) ∧ SqL K H b (ms.map V.int) ∧ ns.length ≤ 300 ∧ Pw.Alike ns ms ∧ Tabs (lamT Pt) H ∧ ∀ H', ExtN H H' → Tabs (lamT Pt) H' → KQ Q (.bl true) H'
theorem k_Lgood {K : PySem.W.Frag} {Pt : Addr} {H : Hp} {P : V → Hp → Prop} {a b : Addr} {ns ms : List Int} (h : SqL K H a (ns.map V.int)) (h2 : SqL K H b (ms.map V.int)) (hl : ns.length ≤ 300) (al : Pw.Alike ns ms) (ht : Tabs (lamT Pt) H) (hp : ∀ H', ExtN H H' → Tabs (lamT Pt) H' → P (.bl true) H') : SpK (spLgood K Pt) [.ref a, .ref b] H P := fun _ H1 e Q q =>
  ⟨a, b, ns, ms, rfl, ex_l e h, ex_l e h2, hl, al, ht.ext e, fun H' eN t' H2 e2 => q _ _ ⟨H', e2, hp H' ((ExtN.of e).trans eN) t'⟩⟩
def spLaw (K : PySem.W.Frag) (Pt : Addr) : Sp := fun vs H Q _ => ∃ (a : Addr) (ns : List Int), vs = [.ref a] ∧ SqL K H a (ns.map V.int) ∧ ns.length ≤ 63 ∧ (∀ z ∈ ns, Builtin.Int.intBits z ≤ 1048576) ∧ H Pt = some (.tbl #[]) ∧ ∀ H', Q (.bl true) H'
theorem tabs_mut {T : List (Addr × Str)} {H : Hp} {x : Addr} {xs ys : List V} (h : Tabs T H) (hx : H x = some (.lst xs)) : Tabs T (upd H x (.lst ys)) := fun p hp => by
  obtain ⟨ps, h1, h2, h3⟩ := h p hp
  refine ⟨ps, by rw [upd_ne fun e => by rw [e, hx] at h1; cases h1]; exact h1, h2, fun pos cv hc => ?_⟩
  obtain ⟨c, e1, e2⟩ := h3 pos cv hc
  refine ⟨c, e1, ?_⟩
  rw [upd_ne fun e => by
    rw [e, hx] at e2
    have e3 := Option.some.inj e2
    unfold CodeO at e3
    cases e3]
  exact e2
theorem extN_mut {H H' : Hp} {x : Addr} {o : HO} (h : ExtN H H') (hx : H x = none) : ExtN H (upd H' x o) := fun b u hb hn => by
  rw [upd_ne fun e => by rw [e, hx] at hb; cases hb]
  exact h b u hb hn
theorem gap_rev {ns ms : List Int} (h : Pw.GapIs ns ms none) : Pw.GapIs ns.reverse ms.reverse none := fun k hk => by
  rw [List.length_reverse] at hk
  have h1 := h k hk
  unfold Pw.top at *
  rw [Pm.sd_reverse, Pm.sd_reverse]
  exact h1
theorem leads_rev {ns ms : List Int} {Gs : List Pg.Gift} (h : Pv.Leads ns ms.reverse Gs) : Pv.Leads ns ms Gs := by
  obtain ⟨cur, h1, h2⟩ := h.walk
  refine ⟨⟨cur, h1, h2.trans (List.reverse_perm ms)⟩, h.few, ?_⟩
  rw [h.am]
  unfold Pw.dues
  rw [Pm.sd_reverse]

section
variable {P : Program} {w : World} {K : PySem.W.Frag} {mg : Str → Option Value} {base : Heap}
theorem ok_init {C_PurseError C_NoGift C_Unlike C_Gap C_NoText : Addr} (T : TxtE K mg C_PurseError C_NoGift C_Unlike C_Gap C_NoText) {fI : Addr} (GT : GapT K C_Gap C_PurseError fI) {f : Addr} {fd : FuncData} (F : Fun K "__init__" "Gap.__init__" s_init f fd) (B : Bl mg) : FnOk P w K mg base CX0 1 f fd ["self", "at"] (spIni K "at") := by
  refine F.ok sc_init (fun vs H Q E h => ?_) (fun cdv A outer s H vs Q E hr h => ?_)
  · obtain ⟨a, C, v, rfl, _⟩ := h
    rfl
  · obtain ⟨a, C, v, rfl, T1, no, hH, q⟩ := h
    refine ⟨_, pss_cons (ps_expr (pe_cinit (K := K) (x := "PurseError") (by rfl) T.g_PurseError GT.rd GT.ga GT.vV (pa_cons (pv 0) (pa_cons pe_str pa_nil)))) (pss_one (ps_ost (pv 0) (pv 1))), Go.here ?_⟩
    walk_at "s"
    refine k_vei ?_
    walk_at "ks"
    refine ⟨a, C, _, rfl, by show 1 ≤ 1000; decide, T1, hH, ?_⟩
    refine g1_ost ?_
    walk_at "ks"
    refine ⟨a, C, rfl, T1, no, hH, fun Hr er dx nd ne => ?_⟩
    exact q dx (fresh_back er nd) ne _ (Ex.updm (Ex.updm er))

theorem ok_tops {C_PurseError C_NoGift C_Unlike C_Gap C_NoText : Addr} (T : TxtE K mg C_PurseError C_NoGift C_Unlike C_Gap C_NoText) {fI : Addr} (GT : GapT K C_Gap C_PurseError fI) {f : Addr} {fd : FuncData} (F : Fun K "tops" "tops" s_tops f fd) (B : Bl mg) : FnOk P w K mg base CX0 1 f fd ["row"] (spTops K) := by
  refine F.ok sc_tops (fun vs H Q E h => ?_) (fun cdv A outer s H vs Q E hr h => ?_)
  · obtain ⟨a, ns, rfl, _⟩ := h
    rfl
  · obtain ⟨a, ns, rfl, hS, hl, q⟩ := h
    refine ⟨_, (pss_cons (ps_set (i := 1) sc_tops.nd rfl (Or.inl rfl) (pe_lst (pa_cons pe_int pa_nil)))
      (pss_cons (ps_set (i := 2) sc_tops.nd rfl (Or.inl rfl) pe_int)
      (pss_cons (ps_for PassesOwn.never rfl (piL (K := K) (pe_callBK (bSrtR (K := K)) (by rfl) B.sorted_ boot_sorted (pa_cons (pv 0) pa_nil) (pk_cons pe_bl pk_nil))) (pg_name (i := 3) sc_tops.nd rfl (Or.inl rfl)) (pss_cons (ps_set (i := 2) sc_tops.nd rfl (Or.inl rfl) (pe_op op_add (pv 2) (pv 3)))
      (pss_one (ps_expr (peBm (K := K) PySem.F.plainAttrs_list PySem.F.slot_list_append PySem.F.type_list_append mt_append (pv 1) (pa_cons (pv 2) pa_nil))))))
      (pss_one (ps_ret (pv 1)))))), Go.here ?_⟩
    walk_at "s"; walk_at "ks"
    refine ⟨(by show 1 ≤ 100000; decide), fun p np => ?_⟩
    walk_at "s"; walk_at "ks"
    have hS2 := sq_up (o := .lst [V.int 0]) hS np
    refine gs_forF ?_
    walk_at "ks"
    refine Pm.c_sortedRev hS2 fun c nc => ?_
    obtain ⟨nc0, ncp⟩ := none_of_up nc
    have hlen : (Pm.sd ns).length = ns.length := Pm.sd_len ns
    refine ⟨c, (Pm.sd ns).map V.int, fun i σ' H' => ∃ (v : Option V), σ' = [some (.ref a), some (.ref p), some (.int ((Pm.sd ns).take i).sum), v] ∧ H' = upd (upd H c (.lst ((Pm.sd ns).map V.int))) p (.lst (((List.range (i + 1)).map fun k => ((Pm.sd ns).take k).sum).map V.int)), rfl, sq_of upd_same, ⟨none, rfl, ?_⟩, ?_, ?_, ?_⟩
    · funext b
      unfold upd
      by_cases h1 : b = p
      · subst h1
        rw [if_neg (Ne.symm ncp), if_pos rfl, if_pos rfl]
        rfl
      · rw [if_neg h1, if_neg h1]
    · rintro i σ' H' _ ⟨v, _, rfl⟩
      exact sq_of (by rw [upd_ne ncp, upd_same])
    · rintro i x σ' H' hx ⟨v, rfl, rfl⟩
      obtain ⟨z, hz, rfl⟩ := Pm.map_at hx
      have hi : i < (Pm.sd ns).length := (List.getElem?_eq_some_iff.mp hz).1
      walk_at "s"; walk_at "ks"
      walk_at "s"; walk_at "ks"
      refine ⟨tyl (sq_of upd_same), ?_⟩
      walk_at "ks"
      refine m_append upd_same (by rw [List.length_map, List.length_map, List.length_range]; omega) fun H1 e1 => ⟨_, e1, some (.int z), ?_, ?_⟩
      · rw [Pm.sum_take hz]
        rfl
      · rw [upd_upd, List.range_succ (n := i + 1), List.map_append, List.map_append]
        show _ = upd _ p (.lst (_ ++ [V.int ((Pm.sd ns).take (i + 1)).sum]))
        rw [Pm.sum_take hz]
    · rintro σ' H' ⟨v, rfl, rfl⟩
      walk_at "s"; walk_at "ks"
      rw [List.length_map]
      exact (q p np).up (Ex.updm (Ex.new nc0))

theorem ok_together {C_PurseError C_NoGift C_Unlike C_Gap C_NoText : Addr} (T : TxtE K mg C_PurseError C_NoGift C_Unlike C_Gap C_NoText) {fI : Addr} (GT : GapT K C_Gap C_PurseError fI) {f : Addr} {fd : FuncData} (F : Fun K "together" "together" s_together f fd) (B : Bl mg) : FnOk P w K mg base CX0 1 f fd ["one", "other"] (sptogether K) := by
  refine F.ok sc_together (fun vs H Q E h => ?_) (fun cdv A outer s H vs Q E hr h => ?_)
  · obtain ⟨a, b, ns, ms, rfl, _⟩ := h
    rfl
  · obtain ⟨a, b, ns, ms, rfl, hS, hT, al, qk⟩ := h
    refine ⟨_, (pss_one (ps_if (PW.pt (pw_or (pt_cmpR op_ne (pe_callB (bLen (K := K)) (by rfl) B.len_ boot_len (pa_cons (pv 0) pa_nil)) (pe_callB (bLen (K := K)) (by rfl) B.len_ boot_len (pa_cons (pv 1) pa_nil)) (nomark _)) (pw_or1 (pt_cmpR op_ne (pe_callB (bSum (K := K) rfl) (by rfl) B.sum_ boot_sum (pa_cons (pv 0) pa_nil)) (pe_callB (bSum (K := K) rfl) (by rfl) B.sum_ boot_sum (pa_cons (pv 1) pa_nil)) (nomark _))))) (pss_one ps_never) pss_nil)), Go.here ?_⟩
    walk_at "s"; walk_at "ks"
    refine c_len hS ?_
    walk_at "ks"
    refine c_len hT ?_
    walk_at "ks"
    rw [List.length_map, List.length_map]
    rw [decide_eq_true (show (ns.length : Int) = (ms.length : Int) by rw [al.1])]
    refine ⟨fun hb => Bool.noConfusion hb, fun _ => ?_⟩
    walk_at "ks"
    refine c_sum hS ?_
    walk_at "ks"
    refine c_sum hT ?_
    walk_at "ks"
    rw [decide_eq_true al.2]
    refine ⟨fun hb => Bool.noConfusion hb, fun _ => ?_⟩
    exact g1_next fun H1 e1 => qk H1 e1
theorem ok_gap {C_PurseError C_NoGift C_Unlike C_Gap C_NoText : Addr} (T : TxtE K mg C_PurseError C_NoGift C_Unlike C_Gap C_NoText) {fI : Addr} (GT : GapT K C_Gap C_PurseError fI) {f : Addr} {fd : FuncData} (F : Fun K "gap" "gap" s_gap f fd) (B : Bl mg) {f_together : Addr} {fd_together : FuncData} (c_together : Cl P w K mg base CX0 1 "together" f_together fd_together ["one", "other"] (sptogether K)) {f_tops : Addr} {fd_tops : FuncData} (c_tops : Cl P w K mg base CX0 1 "tops" f_tops fd_tops ["row"] (spTops K)) : FnOk P w K mg base CX0 2 f fd ["one", "other"] (spgap K) := by
  refine F.ok sc_gap (fun vs H Q E h => ?_) (fun cdv A outer s H vs Q E hr h => ?_)
  · obtain ⟨a, b, ns, ms, rfl, _⟩ := h
    rfl
  · obtain ⟨a, b, ns, ms, rfl, hS, hT, hl, al, qk⟩ := h
    refine ⟨_, (pss_cons (ps_expr (pe_call c_together.ok (hr.mono (by decide)) (by rfl) c_together.gl c_together.kp c_together.bd .nil pass0 (pa_cons (pv 0) (pa_cons (pv 1) pa_nil))))
      (pss_cons (ps_set (i := 2) sc_gap.nd rfl (Or.inl rfl) (pe_call c_tops.ok (hr.mono (by decide)) (by rfl) c_tops.gl c_tops.kp c_tops.bd .nil pass0 (pa_cons (pv 0) pa_nil)))
      (pss_cons (ps_set (i := 3) sc_gap.nd rfl (Or.inl rfl) (pe_call c_tops.ok (hr.mono (by decide)) (by rfl) c_tops.gl c_tops.kp c_tops.bd .nil pass0 (pa_cons (pv 1) pa_nil)))
      (pss_cons (ps_for PassesOwn.never rfl (pi_range1 (by rfl) B.range_ (pa_cons (pe_callB (bLen (K := K)) (by rfl) B.len_ boot_len (pa_cons (pv 2) pa_nil)) pa_nil)) (pg_name (i := 4) sc_gap.nd rfl (Or.inl rfl)) (pss_one (ps_if (pt_cmpR op_gt (pe_ix (ixl (K := K)) (pv 3) (pv 4) (fun _ _ => rfl)) (pe_ix (ixl (K := K)) (pv 2) (pv 4) (fun _ _ => rfl)) (nomark _)) (pss_one (ps_ret (pv 4))) pss_nil)))
      (pss_one (ps_ret pe_non)))))), Go.here ?_⟩
    walk_at "s"; walk_at "ks"
    refine k_together hS hT al ?_
    have al1 := al.1
    walk_at "s"; walk_at "ks"
    refine k_tops hS (by omega) fun p np => ?_
    have e1 : Ex H (upd H p (.lst ((Pm.tops ns).map V.int))) := Ex.new np
    have p1 : (upd H p (.lst ((Pm.tops ns).map V.int))) p = some (.lst ((Pm.tops ns).map V.int)) := upd_same
    generalize upd H p (.lst ((Pm.tops ns).map V.int)) = H1 at e1 p1
    walk_at "s"; walk_at "ks"
    refine k_tops (ex_l e1 hT) (by omega) fun r nr => ?_
    have e2 : Ex H (upd H1 r (.lst ((Pm.tops ms).map V.int))) := e1.trans (Ex.new nr)
    have p2 := at_up (o := .lst ((Pm.tops ms).map V.int)) p1 nr
    have r2 : (upd H1 r (.lst ((Pm.tops ms).map V.int))) r = some (.lst ((Pm.tops ms).map V.int)) := upd_same
    generalize upd H1 r (.lst ((Pm.tops ms).map V.int)) = H2 at e2 p2 r2
    refine gs_forR (n := (ns.length : Int) + 1) (fun i σ' H' => ∃ v : Option V, σ' = [some (.ref a), some (.ref b), some (.ref p), some (.ref r), v] ∧ H2 = H' ∧ ∀ j, j < i → Pw.top ms j ≤ Pw.top ns j) ?_ ?_ ?_
    · walk_at "ks"
      refine c_len (sq_of p2) ?_
      rw [List.length_map, Pm.tops_len]
      walk_at "ks"
      exact ⟨rfl, by omega, by omega, none, rfl, rfl, fun j hj => absurd hj (by omega)⟩
    · rintro i σ' H' hi ⟨v, rfl, rfl, hj⟩
      walk_at "s"; walk_at "ks"
      refine r_ixL (v := .int (Pw.top ms i)) (sq_of r2) (Pm.atI_map (Pw.top_at (by omega))) ?_
      walk_at "ks"
      refine r_ixL (v := .int (Pw.top ns i)) (sq_of p2) (Pm.atI_map (Pw.top_at (by omega))) ?_
      walk_at "ks"
      refine ⟨fun hb => ?_, fun hb => ?_⟩
      · have h1 := of_decide_eq_true hb
        walk_at "s"; walk_at "ks"
        exact (qk (some i) ⟨by omega, by omega, hj⟩).up e2
      · have h1 := of_decide_eq_false hb
        refine g1_next fun H3 e3 => ⟨_, e3, _, rfl, rfl, fun j hj2 => ?_⟩
        by_cases c : j < i
        · exact hj j c
        · obtain rfl : j = i := by omega
          omega
    · rintro σ' H' ⟨v, rfl, rfl, hj⟩
      walk_at "s"; walk_at "ks"
      exact (qk none fun k hk => hj k (by omega)).up e2
theorem ok_last_above {C_PurseError C_NoGift C_Unlike C_Gap C_NoText : Addr} (T : TxtE K mg C_PurseError C_NoGift C_Unlike C_Gap C_NoText) {fI : Addr} (GT : GapT K C_Gap C_PurseError fI) {f : Addr} {fd : FuncData} (F : Fun K "last_above" "last_above" s_last_above f fd) (B : Bl mg) : FnOk P w K mg base CX0 1 f fd ["held", "goals"] (splast_above K) := by
  refine F.ok sc_last_above (fun vs H Q E h => ?_) (fun cdv A outer s H vs Q E hr h => ?_)
  · obtain ⟨a, b, As, Bs, rfl, _⟩ := h
    rfl
  · obtain ⟨a, b, As, Bs, rfl, hS, hT, hl, he, qk⟩ := h
    refine ⟨_, (pss_cons (ps_set (i := 2) sc_last_above.nd rfl (Or.inl rfl) pe_non)
      (pss_cons (ps_for PassesOwn.never rfl (pi_range1 (by rfl) B.range_ (pa_cons (pe_callB (bLen (K := K)) (by rfl) B.len_ boot_len (pa_cons (pv 0) pa_nil)) pa_nil)) (pg_name (i := 3) sc_last_above.nd rfl (Or.inl rfl)) (pss_one (ps_if (pt_cmpR op_gt (pe_ix (ixl (K := K)) (pv 0) (pv 3) (fun _ _ => rfl)) (pe_ix (ixl (K := K)) (pv 1) (pv 3) (fun _ _ => rfl)) (nomark _)) (pss_one (ps_set (i := 2) sc_last_above.nd rfl (Or.inl rfl) (pv 3))) pss_nil)))
      (pss_one (ps_ret (pv 2))))), Go.here ?_⟩
    walk_at "s"; walk_at "ks"
    refine gs_forR (n := (As.length : Int)) (fun i σ' H' => ∃ (o : Option Nat) (v : Option V), σ' = [some (.ref a), some (.ref b), some (Pw.oV o), v] ∧ H = H' ∧ (match o with | none => ∀ j, j < i → As.getD j 0 ≤ Bs.getD j 0 | some r => r < i ∧ Bs.getD r 0 < As.getD r 0 ∧ ∀ j, r < j → j < i → As.getD j 0 ≤ Bs.getD j 0)) ?_ ?_ ?_
    · walk_at "ks"
      refine c_len hS ?_
      rw [List.length_map]
      walk_at "ks"
      exact ⟨rfl, by omega, by omega, none, none, rfl, rfl, fun j hj => absurd hj (by omega)⟩
    · rintro i σ' H' hi ⟨o, v, rfl, rfl, ho⟩
      walk_at "s"; walk_at "ks"
      refine r_ixL hS (at_getD (by omega) (by omega)) ?_
      walk_at "ks"
      refine r_ixL hT (at_getD (by omega) (by omega)) ?_
      rw [Int.toNat_natCast]
      walk_at "ks"
      refine ⟨fun hb => ?_, fun hb => ?_⟩
      · have h1 := of_decide_eq_true hb
        walk_at "s"; walk_at "ks"
        exact fun H1 e1 => ⟨_, e1, some i, _, rfl, rfl, by omega, h1, fun j j1 j2 => absurd j1 (by omega)⟩
      · have h1 := of_decide_eq_false hb
        refine g1_next fun H1 e1 => ⟨_, e1, o, _, rfl, rfl, ?_⟩
        cases o with
        | none =>
          intro j hj
          by_cases c : j = i
          · subst c
            omega
          · exact ho j (by omega)
        | some r =>
          obtain ⟨a1, a2, a3⟩ := ho
          refine ⟨by omega, a2, fun j j1 j2 => ?_⟩
          by_cases c : j = i
          · subst c
            omega
          · exact a3 j j1 (by omega)
    · rintro σ' H' ⟨o, v, rfl, rfl, ho⟩
      walk_at "s"; walk_at "ks"
      refine qk o ?_
      cases o with
      | none => exact fun i hi => ho i (by omega)
      | some r =>
        obtain ⟨a1, a2, a3⟩ := ho
        exact ⟨by omega, a2, fun j j1 j2 => a3 j j1 (by omega)⟩
theorem ok_next_below {C_PurseError C_NoGift C_Unlike C_Gap C_NoText : Addr} (T : TxtE K mg C_PurseError C_NoGift C_Unlike C_Gap C_NoText) {fI : Addr} (GT : GapT K C_Gap C_PurseError fI) {f : Addr} {fd : FuncData} (F : Fun K "next_below" "next_below" s_next_below f fd) (B : Bl mg) : FnOk P w K mg base CX0 1 f fd ["held", "goals", "rank"] (spnext_below K) := by
  refine F.ok sc_next_below (fun vs H Q E h => ?_) (fun cdv A outer s H vs Q E hr h => ?_)
  · obtain ⟨a, b, As, Bs, r, rfl, _⟩ := h
    rfl
  · obtain ⟨a, b, As, Bs, r, rfl, hS, hT, he, ⟨w, w1, w2, w3⟩, qk⟩ := h
    refine ⟨_, (pss_cons (ps_set (i := 3) sc_next_below.nd rfl (Or.inl rfl) (pe_op op_add (pv 2) pe_int))
      (pss_cons (ps_while PassesOwn.never (pt_cmpR op_ge (pe_ix (ixl (K := K)) (pv 0) (pv 3) (fun _ _ => rfl)) (pe_ix (ixl (K := K)) (pv 1) (pv 3) (fun _ _ => rfl)) (nomark _)) (pss_one (ps_set (i := 3) sc_next_below.nd rfl (Or.inl rfl) (pe_op op_add (pv 3) pe_int))))
      (pss_one (ps_ret (pv 3))))), Go.here ?_⟩
    walk_at "s"; walk_at "ks"
    refine gs_while (m0 := As.length - (r + 1)) (fun m σ' H' => ∃ j : Nat, σ' = [some (.ref a), some (.ref b), some (.int (r : Int)), some (.int (j : Int))] ∧ H = H' ∧ m = As.length - j ∧ r < j ∧ j ≤ w ∧ ∀ i, r < i → i < j → Bs.getD i 0 ≤ As.getD i 0) ⟨r + 1, rfl, rfl, rfl, by omega, by omega, fun i i1 i2 => absurd i1 (by omega)⟩ ?_
    rintro m σ' H' ⟨j, rfl, rfl, rfl, j1, j2, hj⟩
    walk_at "ks"
    refine r_ixL hS (at_getD (by omega) (by omega)) ?_
    walk_at "ks"
    refine r_ixL hT (at_getD (by omega) (by omega)) ?_
    rw [Int.toNat_natCast]
    walk_at "ks"
    refine ⟨fun hb => ?_, fun hb => ?_⟩
    · have h1 := of_decide_eq_true hb
      walk_at "s"; walk_at "ks"
      have jw : j ≠ w := fun e => by
        subst e
        omega
      refine fun H1 e1 => ⟨As.length - (j + 1), _, by omega, e1, j + 1, rfl, rfl, rfl, by omega, by omega, fun i i1 i2 => ?_⟩
      by_cases c : i = j
      · subst c
        exact h1
      · exact hj i i1 (by omega)
    · have h1 := of_decide_eq_false hb
      walk_at "s"; walk_at "ks"
      exact qk j ⟨j1, by omega, by omega, hj⟩

theorem ok_way {C_PurseError C_NoGift C_Unlike C_Gap C_NoText : Addr} (T : TxtE K mg C_PurseError C_NoGift C_Unlike C_Gap C_NoText) {fI : Addr} (GT : GapT K C_Gap C_PurseError fI) {f : Addr} {fd : FuncData} {cw Pt : Addr} (F : FunC K "way" "way" s_way f fd (.ref cw)) (TB : LamX.TabB base mg cw Pt) (B : Bl mg) {f_gap : Addr} {fd_gap : FuncData} (c_gap : Cl P w K mg base CX0 2 "gap" f_gap fd_gap ["one", "other"] (spgap K)) {f_last_above : Addr} {fd_last_above : FuncData} (c_last_above : Cl P w K mg base CX0 1 "last_above" f_last_above fd_last_above ["held", "goals"] (splast_above K)) {f_next_below : Addr} {fd_next_below : FuncData} (c_next_below : Cl P w K mg base CX0 1 "next_below" f_next_below fd_next_below ["held", "goals", "rank"] (spnext_below K)) {fd_I : FuncData} (cI : FnOk P w K mg base CX0 1 fI fd_I ["self", "at"] (spIni K "at")) (bI : Binds K fd_I ["self", "at"] []) : FnOk P w K mg base (L2.CX P w) 3 f fd ["one", "other"] (spway K Pt C_Gap) := by
  refine F.okX sc_way (fun vs H Q E h => ?_) (fun A outer s H vs Q E hr h => ?_)
  · obtain ⟨a, b, ns, ms, rfl, _⟩ := h
    rfl
  · obtain ⟨a, b, ns, ms, rfl, hS, hT, hl, al, hTb, qe, qk⟩ := h
    refine ⟨_, (pss_cons (ps_set (i := 2) sc_way.nd rfl (Or.inl rfl) (pe_call c_gap.ok (hr.mono (by decide)) (by rfl) c_gap.gl c_gap.kp c_gap.bd .nil pass0 (pa_cons (pv 0) (pa_cons (pv 1) pa_nil))))
      (pss_cons (ps_if (pt_cmpR op_notN (pv 2) pe_non (nomark _)) (pss_one (ps_raise rfl (takes_of rfl rfl rfl rfl) (pmk_oex (sp := spIni K "at") GT.oG GT.iC GT.tI cI (hr.mono (by decide)) bI .nil pass0 rfl T.g_Gap (pa_cons (pv 2) pa_nil)))) pss_nil)
      (pss_cons (ps_set (i := 3) sc_way.nd rfl (Or.inl rfl) (Pl.pe_sortLam (K := K) (T := lamT Pt) (c := cw) (P := Pt) (i := 0) hr rfl (by rfl) B.sorted_ (by rfl) B.range_ (pe_callB (bLen (K := K)) (by rfl) B.len_ boot_len (pa_cons (pv 0) pa_nil)) TB rfl (List.mem_singleton.mpr rfl) (fun p hp _ => by rw [List.mem_singleton.mp hp]; rfl) rfl (fun _ _ _ _ _ _ => rfl) rfl rfl rfl (by decide) rfl rfl (by decide) rfl rfl (by decide) (by decide) (by decide)))
      (pss_cons (ps_setLc (i := 4) (own := [("place", 10)]) (g := gName 10) (tt := tYes) rfl sc_way.nd rfl rfl (sw_true rfl rfl rfl (by decide +kernel)) (piL (K := K) (pv 3)) (blkOk_by (own := [("place", 10)]) (N := n_way) (sc := defScope s_way) (by decide +kernel)) (fun _ _ _ _ _ => pg_name (i := 10) sc_way.nd rfl (Or.inl rfl)) (fun _ _ _ _ _ => pts_nil) (fun _ _ _ _ _ => (pe_ix (ixl (K := K)) (pv 0) (pv 10) (fun _ _ => rfl))))
      (pss_cons (ps_set (i := 5) sc_way.nd rfl (Or.inl rfl) (pe_callBK (bSrtR (K := K)) (by rfl) B.sorted_ boot_sorted (pa_cons (pv 1) pa_nil) (pk_cons pe_bl pk_nil)))
      (pss_cons (ps_set (i := 6) sc_way.nd rfl (Or.inl rfl) (pe_lst pa_nil))
      (pss_cons (ps_set (i := 7) sc_way.nd rfl (Or.inl rfl) (pe_call c_last_above.ok (hr.mono (by decide)) (by rfl) c_last_above.gl c_last_above.kp c_last_above.bd .nil pass0 (pa_cons (pv 4) (pa_cons (pv 5) pa_nil))))
      (pss_cons (ps_while (passes_of rfl) (pt_cmpR op_notN (pv 7) pe_non (nomark _)) (pss_cons (ps_set (i := 8) sc_way.nd rfl (Or.inl rfl) (pe_call c_next_below.ok (hr.mono (by decide)) (by rfl) c_next_below.gl c_next_below.kp c_next_below.bd .nil pass0 (pa_cons (pv 4) (pa_cons (pv 5) (pa_cons (pv 7) pa_nil)))))
      (pss_cons (ps_set (i := 9) sc_way.nd rfl (Or.inl rfl) (pe_callB (call_min2 rfl) (by rfl) B.min_ boot_min (pa_cons (pe_op op_sub (pe_ix (ixl (K := K)) (pv 4) (pv 7) (fun _ _ => rfl)) (pe_ix (ixl (K := K)) (pv 5) (pv 7) (fun _ _ => rfl))) (pa_cons (pe_op op_sub (pe_ix (ixl (K := K)) (pv 5) (pv 8) (fun _ _ => rfl)) (pe_ix (ixl (K := K)) (pv 4) (pv 8) (fun _ _ => rfl))) pa_nil))))
      (pss_cons (ps_expr (peBm (K := K) PySem.F.plainAttrs_list PySem.F.slot_list_append PySem.F.type_list_append mt_append (pv 6) (pa_cons (pe_tup (pa_cons (pe_ix (ixl (K := K)) (pv 3) (pv 7) (fun _ _ => rfl)) (pa_cons (pe_ix (ixl (K := K)) (pv 3) (pv 8) (fun _ _ => rfl)) (pa_cons (pv 9) pa_nil)))) pa_nil)))
      (pss_cons (ps_asg (pe_op op_sub (pe_ix (ixl (K := K)) (pv 4) (pv 7) (fun _ _ => rfl)) (pv 9)) (pg_sub (pv 4) (pv 7) set_list))
      (pss_cons (ps_asg (pe_op op_add (pe_ix (ixl (K := K)) (pv 4) (pv 8) (fun _ _ => rfl)) (pv 9)) (pg_sub (pv 4) (pv 8) set_list))
      (pss_one (ps_set (i := 7) sc_way.nd rfl (Or.inl rfl) (pe_call c_last_above.ok (hr.mono (by decide)) (by rfl) c_last_above.gl c_last_above.kp c_last_above.bd .nil pass0 (pa_cons (pv 4) (pa_cons (pv 5) pa_nil)))))))))))
      (pss_one (ps_ret (pv 6))))))))))), Go.here ?_⟩
    walk_at "s"; walk_at "ks"
    refine k_gap hS hT (by omega) al fun o ho => ?_
    rcases o with _ | kk
    rotate_left
    · dsimp only [Pw.oV]
      walk_at "s"; walk_at "ks"
      refine r_notN ?_
      rw [decide_eq_false (fun h => by cases h)]
      walk_at "ks"
      refine ⟨fun _ => ?_, fun hb => Bool.noConfusion hb⟩
      refine g_raiseO GT.oG GT.no ?_
      walk_at "ks"
      exact fun d H' e' h' => qe kk ho d H' e' h' H' (Ex.refl _)
    have hg := ho
    replace qk := qk ho
    dsimp only [Pw.oV]
    walk_at "s"; walk_at "ks"
    refine r_notN ?_
    rw [decide_eq_true rfl]
    walk_at "ks"
    refine ⟨fun hb => Bool.noConfusion hb, fun _ => ?_⟩
    walk_at "s"
    refine k_sortLam ?_
    walk_at "ks"
    refine c_len hS ?_
    rw [List.length_map]
    refine ⟨ns.length, a, ns, rfl, by omega, rfl, rfl, hS, hTb, fun H2 eN T2 is q hperm hpw nq => ?_⟩
    have pl : Pv.IsPl is ns.length := ⟨hperm⟩
    have hS2 := Pl.sq_extN hS eN
    have hT2 := Pl.sq_extN hT eN
    have eN3 : ExtN H (upd H2 q (.lst (is.map V.int))) := eN.trans (ExtN.of (Ex.new nq))
    have T3 : Tabs (lamT Pt) (upd H2 q (.lst (is.map V.int))) := T2.ext (Ex.new nq)
    have hS3 := ex_l (Ex.new (o := .lst (is.map V.int)) nq) hS2
    have hT3 := ex_l (Ex.new (o := .lst (is.map V.int)) nq) hT2
    have q3 : (upd H2 q (.lst (is.map V.int))) q = some (.lst (is.map V.int)) := upd_same
    generalize upd H2 q (.lst (is.map V.int)) = H3 at eN3 T3 hS3 hT3 q3
    have isl := pl.len
    walk_at "s"
    refine k_lcI (a := q) (ns := is) (fun j => ns.getD j.toNat 0) ?_
    walk_at "ks"
    refine ⟨rfl, sq_of q3, by omega, fun _ => rfl, fun j Hz hj ez => ?_, fun hd nhd => ?_⟩
    · have bj := pl.mem hj
      walk_at "ks"
      exact r_ixL (ex_l ez hS3) (at_getD bj.1 bj.2) ⟨rfl, rfl⟩
    have eA : is.map (fun j => ns.getD j.toNat 0) = Pv.atP is ns := rfl
    rw [eA]
    obtain ⟨W0, eA2⟩ := Pv.wst_start al hg pl hpw
    have f1 : Ex H3 (upd H3 hd (.lst ((Pv.atP is ns).map V.int))) := Ex.new nhd
    have d1 : (upd H3 hd (.lst ((Pv.atP is ns).map V.int))) hd = some (.lst ((Pv.atP is ns).map V.int)) := upd_same
    generalize upd H3 hd (.lst ((Pv.atP is ns).map V.int)) = H4 at f1 d1
    walk_at "s"; walk_at "ks"
    refine Pm.c_sortedRev (ex_l f1 hT3) fun g ng => ?_
    have f2 := f1.trans (Ex.new (o := .lst ((Pm.sd ms).map V.int)) ng)
    have d2 := at_up (o := .lst ((Pm.sd ms).map V.int)) d1 ng
    have g2 : (upd H4 g (.lst ((Pm.sd ms).map V.int))) g = some (.lst ((Pm.sd ms).map V.int)) := upd_same
    generalize upd H4 g (.lst ((Pm.sd ms).map V.int)) = H5 at f2 d2 g2
    walk_at "s"; walk_at "ks"
    refine ⟨(by show 0 ≤ 100000; decide), fun p np => ?_⟩
    have np0 : H3 p = none := fresh_back f2 np
    have f3 := f2.trans (Ex.new (o := .lst []) np)
    have d3 := at_up (o := .lst []) d2 np
    have g3 := at_up (o := .lst []) g2 np
    have p3 : (upd H5 p (.lst [])) p = some (.lst []) := upd_same
    have hdg : hd ≠ g := ne_of_none d1 ng
    have hdp : hd ≠ p := ne_of_none d2 np
    have hgp : g ≠ p := ne_of_none g2 np
    generalize upd H5 p (.lst []) = H6 at f3 d3 g3 p3
    have nhd0 : H3 hd = none := nhd
    have wyl := W0.wy.len
    have hAl := W0.len
    walk_at "s"; walk_at "ks"
    refine k_last_above (sq_of d3) (sq_of g3) (by omega) wyl fun o0 ho0 => ?_
    refine gs_while (m0 := (Pv.zs Pv.uq (Pv.atP is ns) (Pm.sd ms)).toNat) (fun m σ' H' => ∃ (A : List Int) (gs : List Addr) (Gs : List Pg.Gift) (o : Option Nat) (v8 v9 : Option V), σ' = [some (.ref a), some (.ref b), some .non, some (.ref q), some (.ref hd), some (.ref g), some (.ref p), some (Pw.oV o), v8, v9, none] ∧ Ex H3 H' ∧ H' hd = some (.lst (A.map V.int)) ∧ H' g = some (.lst ((Pm.sd ms).map V.int)) ∧ GfH H' p gs Gs ∧ Pv.LastAb A (Pm.sd ms) o ∧ Pv.Wst ns ms is A Gs ∧ m = (Pv.zs Pv.uq A (Pm.sd ms)).toNat) ⟨_, [], [], o0, none, none, rfl, f3, d3, g3, ⟨p3, rfl, fun i g z h => by cases h⟩, ho0, W0, rfl⟩ ?_
    clear d3 g3 p3 f3 ho0
    clear o0
    rintro m σ' H' ⟨A', gs, Gs, o, v8, v9, rfl, f, hd', hg', hG, hla, W, rfl⟩
    have hAl' := W.len
    have wyl' := W.wy.len
    have hfew := W.few
    cases o with
    | none =>
      dsimp only [Pw.oV]
      walk_at "ks"
      refine r_notN ?_
      rw [decide_eq_true rfl]
      walk_at "ks"
      refine ⟨fun hb => Bool.noConfusion hb, fun _ => ?_⟩
      walk_at "s"; walk_at "ks"
      refine qk gs Gs p H' (eN3.trans (ExtN.of f)) (T3.ext f) (fun xs h => ?_) hG (W.end hla)
      rw [eN3 p _ h fun ps z => by cases z] at np0
      cases np0
    | some h =>
      obtain ⟨l1, l2, l3⟩ := id hla
      dsimp only [Pw.oV]
      walk_at "ks"
      refine r_notN ?_
      rw [decide_eq_false (fun h => by cases h)]
      walk_at "ks"
      refine ⟨fun _ => ?_, fun hb => Bool.noConfusion hb⟩
      walk_at "s"; walk_at "ks"
      refine k_next_below (sq_of hd') (sq_of hg') wyl' (W.wy.low l1 l2) fun l hlow => ?_
      have tn := Pv.turn W.wy hla hlow
      have gt := hlow.gt
      have lt := hlow.lt
      obtain ⟨x, hx⟩ : ∃ x, is[h]? = some x := ⟨_, List.getElem?_eq_getElem (by omega)⟩
      obtain ⟨y, hy⟩ : ∃ x, is[l]? = some x := ⟨_, List.getElem?_eq_getElem (by omega)⟩
      have W2 := W.next hla hlow hx hy
      walk_at "s"; walk_at "ks"
      refine r_ixL (sq_of hd') (at_getD (by omega) (by omega)) ?_
      walk_at "ks"
      refine r_ixL (sq_of hg') (at_getD (by omega) (by omega)) ?_
      walk_at "ks"
      refine r_ixL (sq_of hg') (at_getD (by omega) (by omega)) ?_
      walk_at "ks"
      refine r_ixL (sq_of hd') (at_getD (by omega) (by omega)) ?_
      walk_at "ks"
      rw [Int.toNat_natCast, Int.toNat_natCast]
      refine c_min2 ?_
      have eam : (if (Pm.sd ms).getD l 0 - A'.getD l 0 < A'.getD h 0 - (Pm.sd ms).getD h 0 then (Pm.sd ms).getD l 0 - A'.getD l 0 else A'.getD h 0 - (Pm.sd ms).getD h 0) = Pv.amt A' (Pm.sd ms) h l := rfl
      rw [eam]
      have hnx : (A'.set h (A'.getD h 0 - Pv.amt A' (Pm.sd ms) h l)).set l (A'.getD l 0 + Pv.amt A' (Pm.sd ms) h l) = Pv.nxt A' (Pm.sd ms) h l := rfl
      generalize Pv.amt A' (Pm.sd ms) h l = am at W2 hnx
      have q' : H' q = some (.lst (is.map V.int)) := f _ _ q3
      walk_at "s"; walk_at "ks"
      refine ⟨tyl (sq_of hG.lst), ?_⟩
      walk_at "ks"
      refine r_ixL (v := .int x) (sq_of q') (Pm.atI_map hx) ?_
      walk_at "ks"
      refine r_ixL (v := .int y) (sq_of q') (Pm.atI_map hy) ?_
      walk_at "ks"
      refine ⟨(by show 3 ≤ 100000; decide), fun t nt => ?_⟩
      have x1 := Ex.new (o := .tup [V.int x, V.int y, V.int am]) nt
      have t1 : (upd H' t (.tup [V.int x, V.int y, V.int am])) t = some (.tup [V.int x, V.int y, V.int am]) := upd_same
      have hd1 := x1 _ _ hd'
      have hg1 := x1 _ _ hg'
      have hG1 := hG.up x1
      have f1' := f.trans x1
      generalize upd H' t (.tup [V.int x, V.int y, V.int am]) = H7 at t1 hd1 hg1 hG1 f1'
      walk_at "ks"
      refine m_append hG1.lst (by rw [List.length_map, hG1.len]; omega) ?_
      have f8 := Ex.mut (o := .lst (gs.map V.ref ++ [V.ref t])) f1' np0
      have hd8 : (upd H7 p (.lst (gs.map V.ref ++ [V.ref t]))) hd = some (.lst (A'.map V.int)) := by
        rw [upd_ne hdp]
        exact hd1
      have hg8 : (upd H7 p (.lst (gs.map V.ref ++ [V.ref t]))) g = some (.lst ((Pm.sd ms).map V.int)) := by
        rw [upd_ne hgp]
        exact hg1
      have tW : ∀ b u, H7 b = some (.tup u) → (upd H7 p (.lst (gs.map V.ref ++ [V.ref t]))) b = some (.tup u) := fun b u hb => by
        rw [upd_ne fun e => by subst e; rw [hG1.lst] at hb; cases hb]
        exact hb
      have hG8 : GfH (upd H7 p (.lst (gs.map V.ref ++ [V.ref t]))) p (gs ++ [t]) (Gs ++ [(x, y, am)]) := hG1.snoc (z := (x, y, am)) (by rw [upd_same, List.map_append]; rfl) tW (tW _ _ t1)
      generalize upd H7 p (.lst (gs.map V.ref ++ [V.ref t])) = H8 at f8 hd8 hg8 hG8
      walk_at "s"; walk_at "ks"
      refine r_ixL (sq_of hd8) (at_getD (by omega) (by omega)) ?_
      walk_at "ks"
      rw [Int.toNat_natCast]
      refine ⟨hd, _, (h : Int), h, rfl, rfl, hd8, ?_, ?_⟩
      · have e := ixN_at (n := (A'.map V.int).length) (k := (h : Int)) (by omega) (by rw [List.length_map]; omega)
        rw [Int.toNat_natCast] at e
        exact e
      rw [map_set_int]
      have f9 := Ex.mut (o := .lst ((A'.set h (A'.getD h 0 - am)).map V.int)) f8 nhd0
      have hd9 : (upd H8 hd (.lst ((A'.set h (A'.getD h 0 - am)).map V.int))) hd = some (.lst ((A'.set h (A'.getD h 0 - am)).map V.int)) := upd_same
      have hg9 : (upd H8 hd (.lst ((A'.set h (A'.getD h 0 - am)).map V.int))) g = some (.lst ((Pm.sd ms).map V.int)) := by
        rw [upd_ne hdg.symm]
        exact hg8
      have hG9 := hG8.mut (zs := (A'.set h (A'.getD h 0 - am)).map V.int) hd8 hdp.symm
      generalize upd H8 hd (.lst ((A'.set h (A'.getD h 0 - am)).map V.int)) = H9 at f9 hd9 hg9 hG9
      walk_at "s"; walk_at "ks"
      refine r_ixL (sq_of hd9) (at_getD (by omega) (by rw [List.length_set]; omega)) ?_
      walk_at "ks"
      rw [Int.toNat_natCast, Pg.getD_set_ne (show h ≠ l by omega)]
      refine ⟨hd, _, (l : Int), l, rfl, rfl, hd9, ?_, ?_⟩
      · have e := ixN_at (n := ((A'.set h (A'.getD h 0 - am)).map V.int).length) (k := (l : Int)) (by omega) (by rw [List.length_map, List.length_set]; omega)
        rw [Int.toNat_natCast] at e
        exact e
      rw [map_set_int, hnx]
      have f10 := Ex.mut (o := .lst ((Pv.nxt A' (Pm.sd ms) h l).map V.int)) f9 nhd0
      have hd10 : (upd H9 hd (.lst ((Pv.nxt A' (Pm.sd ms) h l).map V.int))) hd = some (.lst ((Pv.nxt A' (Pm.sd ms) h l).map V.int)) := upd_same
      have hg10 : (upd H9 hd (.lst ((Pv.nxt A' (Pm.sd ms) h l).map V.int))) g = some (.lst ((Pm.sd ms).map V.int)) := by
        rw [upd_ne hdg.symm]
        exact hg9
      have hG10 := hG9.mut (zs := (Pv.nxt A' (Pm.sd ms) h l).map V.int) hd9 hdp.symm
      generalize upd H9 hd (.lst ((Pv.nxt A' (Pm.sd ms) h l).map V.int)) = H10 at f10 hd10 hg10 hG10
      have W2l := W2.len
      have W2w := W2.wy.len
      walk_at "s"; walk_at "ks"
      refine k_last_above (sq_of hd10) (sq_of hg10) (by omega) W2w fun o2 ho2 => ?_
      have tc := tn.cnt
      have tt := tn.two
      have tz := Pv.zs_nonneg Pv.uq Pv.uq_nn (Pv.nxt A' (Pm.sd ms) h l) (Pm.sd ms)
      exact fun H11 e11 => ⟨_, _, by omega, e11, _, gs ++ [t], Gs ++ [(x, y, am)], o2, _, _, rfl, f10, hd10, hg10, hG10, ho2, W2, rfl⟩
theorem ok_Lwhole {C_PurseError C_NoGift C_Unlike C_Gap C_NoText : Addr} (T : TxtE K mg C_PurseError C_NoGift C_Unlike C_Gap C_NoText) {fI : Addr} (GT : GapT K C_Gap C_PurseError fI) {f : Addr} {fd : FuncData} (F : Fun K "_law_whole" "_law_whole" s_Lwhole f fd) (B : Bl mg) : FnOk P w K mg base CX0 1 f fd ["_law_found"] (spLwhole K) := by
  refine F.ok sc_Lwhole (fun vs H Q E h => ?_) (fun cdv A outer s H vs Q E hr h => ?_)
  · obtain ⟨i, rfl, _⟩ := h
    rfl
  · obtain ⟨i, rfl, q⟩ := h
    refine ⟨_, (pss_one (ps_ret (pe_and (pe_callB (bIsi (K := K)) (by rfl) B.isinstance_ boot_isinstance (pa_cons (pv 0) (pa_cons (pe_bltn (v := .ty "int") (by rfl) B.int_ boot_int rfl) pa_nil))) (pe_one (pe_not (pe_callB (bIsi (K := K)) (by rfl) B.isinstance_ boot_isinstance (pa_cons (pv 0) (pa_cons (pe_bltn (v := .ty "bool") (by rfl) B.bool_ boot_bool rfl) pa_nil)))))))), Go.here ?_⟩
    walk_at "s"; walk_at "ks"
    refine c_int_int ?_
    walk_at "ks"
    refine ⟨fun _ => ?_, fun hb => Bool.noConfusion hb⟩
    walk_at "ks"
    refine c_int_bool ?_
    walk_at "ks"
    exact q

theorem ok_Ldues {C_PurseError C_NoGift C_Unlike C_Gap C_NoText : Addr} (T : TxtE K mg C_PurseError C_NoGift C_Unlike C_Gap C_NoText) {fI : Addr} (GT : GapT K C_Gap C_PurseError fI) {f : Addr} {fd : FuncData} (F : Fun K "_law_dues" "_law_dues" s_Ldues f fd) (B : Bl mg) : FnOk P w K mg base CX0 1 f fd ["_law_one", "_law_other"] (spLdues K) := by
  refine F.ok sc_Ldues (fun vs H Q E h => ?_) (fun cdv A outer s H vs Q E hr h => ?_)
  · obtain ⟨a, b, ns, ms, rfl, _⟩ := h
    rfl
  · obtain ⟨a, b, ns, ms, rfl, hS, hT, hl, al1, qk⟩ := h
    refine ⟨_, (pss_cons (ps_set (i := 2) sc_Ldues.nd rfl (Or.inr rfl) (pe_callBK (bSrtR (K := K)) (by rfl) B.sorted_ boot_sorted (pa_cons (pv 0) pa_nil) (pk_cons pe_bl pk_nil)))
      (pss_cons (ps_set (i := 3) sc_Ldues.nd rfl (Or.inr rfl) (pe_callBK (bSrtR (K := K)) (by rfl) B.sorted_ boot_sorted (pa_cons (pv 1) pa_nil) (pk_cons pe_bl pk_nil)))
      (pss_one (ps_ret (pe_callB (bSum (K := K) rfl) (by rfl) B.sum_ boot_sum (pa_cons (pe_lc (own := [("_law_k", 4)]) (g := gName 4) rfl sc_Ldues.nd (pi_range1 (by rfl) B.range_ (pa_cons (pe_callB (bLen (K := K)) (by rfl) B.len_ boot_len (pa_cons (pv 2) pa_nil)) pa_nil)) (blkOk_by (own := [("_law_k", 4)]) (N := n_Ldues) (sc := defScope s_Ldues) (by decide +kernel)) (fun _ _ _ _ _ => pg_name (i := 4) sc_Ldues.nd rfl (Or.inl rfl)) (fun _ _ _ _ _ => pts_one (pt_cmpR op_gt (pe_ix (ixl (K := K)) (pv 2) (pv 4) (fun _ _ => rfl)) (pe_ix (ixl (K := K)) (pv 3) (pv 4) (fun _ _ => rfl)) (nomark _))) (fun _ _ _ _ _ => (pe_op op_sub (pe_ix (ixl (K := K)) (pv 2) (pv 4) (fun _ _ => rfl)) (pe_ix (ixl (K := K)) (pv 3) (pv 4) (fun _ _ => rfl))))) pa_nil)))))), Go.here ?_⟩
    walk_at "s"; walk_at "ks"
    refine Pm.c_sortedRev hS fun p np => ?_
    have e1 : Ex H (upd H p (.lst ((Pm.sd ns).map V.int))) := Ex.new np
    have p1 : (upd H p (.lst ((Pm.sd ns).map V.int))) p = some (.lst ((Pm.sd ns).map V.int)) := upd_same
    generalize upd H p (.lst ((Pm.sd ns).map V.int)) = H1 at e1 p1
    walk_at "s"; walk_at "ks"
    refine Pm.c_sortedRev (ex_l e1 hT) fun r nr => ?_
    have e2 : Ex H (upd H1 r (.lst ((Pm.sd ms).map V.int))) := e1.trans (Ex.new nr)
    have p2 := at_up (o := .lst ((Pm.sd ms).map V.int)) p1 nr
    have r2 : (upd H1 r (.lst ((Pm.sd ms).map V.int))) r = some (.lst ((Pm.sd ms).map V.int)) := upd_same
    generalize upd H1 r (.lst ((Pm.sd ms).map V.int)) = H2 at e2 p2 r2
    walk_at "s"; walk_at "ks"
    refine k_lcWR ?_
    walk_at "ks"
    refine c_len (sq_of p2) ?_
    rw [List.length_map, Pm.sd_len]
    walk_at "ks"
    refine ⟨(ns.length : Int), fun D i acc Hy => ∃ zs : List Int, acc = zs.map V.int ∧ zs.length ≤ i ∧ zs.sum = ((List.zipWith Pw.dz (Pm.sd ns) (Pm.sd ms)).take i).sum ∧ upd H2 D (.lst acc) = Hy, rfl, by omega, by omega, fun D nD => ⟨[], rfl, Nat.zero_le _, rfl, rfl⟩, ?_, ?_, ?_⟩
    · rintro D i acc Hy nD ⟨zs, rfl, hz, hs, rfl⟩
      exact ⟨by rw [List.length_map]; exact hz, upd_same⟩
    · rintro D i acc Hy nD hi ⟨zs, rfl, hz, hs, rfl⟩
      obtain ⟨x, gx⟩ : ∃ x, (Pm.sd ns)[i]? = some x := ⟨_, List.getElem?_eq_getElem (by rw [Pm.sd_len]; omega)⟩
      obtain ⟨y, gy⟩ : ∃ x, (Pm.sd ms)[i]? = some x := ⟨_, List.getElem?_eq_getElem (by rw [Pm.sd_len]; omega)⟩
      have p3 := at_up (o := .lst (zs.map V.int)) p2 nD
      have r3 := at_up (o := .lst (zs.map V.int)) r2 nD
      have hst := Pm.sum_take (Pw.zip_at gx gy)
      refine gk_name ⟨rfl, ?_⟩
      walk_at "ks"
      refine r_ixL (v := .int x) (sq_of p3) (Pm.atI_map gx) ?_
      walk_at "ks"
      refine r_ixL (v := .int y) (sq_of r3) (Pm.atI_map gy) ?_
      walk_at "ks"
      refine ⟨fun hb => ?_, fun hb => ?_⟩
      · have h1 := of_decide_eq_true hb
        walk_at "ks"
        refine r_ixL (v := .int x) (sq_of p3) (Pm.atI_map gx) ?_
        walk_at "ks"
        refine r_ixL (v := .int y) (sq_of r3) (Pm.atI_map gy) ?_
        walk_at "ks"
        refine ⟨upd_same, zs ++ [x - y], by rw [List.map_append]; rfl, by rw [List.length_append]; show zs.length + 1 ≤ i + 1; omega, ?_, by rw [upd_upd]⟩
        rw [hst, List.sum_append, hs]
        unfold Pw.dz
        rw [if_pos (by omega)]
        simp
      · have h1 := of_decide_eq_false hb
        refine ⟨zs, rfl, by omega, ?_, rfl⟩
        rw [hst, hs]
        unfold Pw.dz
        rw [if_neg (by omega), Int.add_zero]
    · rintro D acc Hy nD ⟨zs, rfl, hz, hs, rfl⟩
      walk_at "ks"
      refine c_sum (ns := zs) (sq_of upd_same) ?_
      rw [hs, List.take_of_length_le (by rw [List.length_zipWith, Pm.sd_len]; omega)]
      exact qk.up (e2.trans (Ex.new nD))

theorem ok_Lgap {C_PurseError C_NoGift C_Unlike C_Gap C_NoText : Addr} (T : TxtE K mg C_PurseError C_NoGift C_Unlike C_Gap C_NoText) {fI : Addr} (GT : GapT K C_Gap C_PurseError fI) {f : Addr} {fd : FuncData} (F : Fun K "_law_gap" "_law_gap" s_Lgap f fd) (B : Bl mg) : FnOk P w K mg base CX0 1 f fd ["_law_one", "_law_other"] (spLgap K) := by
  refine F.ok sc_Lgap (fun vs H Q E h => ?_) (fun cdv A outer s H vs Q E hr h => ?_)
  · obtain ⟨a, b, ns, ms, rfl, _⟩ := h
    rfl
  · obtain ⟨a, b, ns, ms, rfl, hS, hT, hl, al1, qk⟩ := h
    refine ⟨_, (pss_cons (ps_set (i := 2) sc_Lgap.nd rfl (Or.inl rfl) (pe_callBK (bSrtR (K := K)) (by rfl) B.sorted_ boot_sorted (pa_cons (pv 0) pa_nil) (pk_cons pe_bl pk_nil)))
      (pss_cons (ps_set (i := 3) sc_Lgap.nd rfl (Or.inl rfl) (pe_callBK (bSrtR (K := K)) (by rfl) B.sorted_ boot_sorted (pa_cons (pv 1) pa_nil) (pk_cons pe_bl pk_nil)))
      (pss_cons (ps_set (i := 4) sc_Lgap.nd rfl (Or.inl rfl) pe_int)
      (pss_cons (ps_for PassesOwn.never rfl (pi_range1 (by rfl) B.range_ (pa_cons (pe_callB (bLen (K := K)) (by rfl) B.len_ boot_len (pa_cons (pv 2) pa_nil)) pa_nil)) (pg_name (i := 5) sc_Lgap.nd rfl (Or.inl rfl)) (pss_cons (ps_set (i := 4) sc_Lgap.nd rfl (Or.inl rfl) (pe_op op_sub (pe_op op_add (pv 4) (pe_ix (ixl (K := K)) (pv 3) (pv 5) (fun _ _ => rfl))) (pe_ix (ixl (K := K)) (pv 2) (pv 5) (fun _ _ => rfl))))
      (pss_one (ps_if (pt_cmpR op_gt (pv 4) pe_int (nomark _)) (pss_one (ps_ret (pe_op op_add (pv 5) pe_int))) pss_nil))))
      (pss_one (ps_ret pe_non)))))), Go.here ?_⟩
    walk_at "s"; walk_at "ks"
    refine Pm.c_sortedRev hS fun p np => ?_
    have e1 : Ex H (upd H p (.lst ((Pm.sd ns).map V.int))) := Ex.new np
    have p1 : (upd H p (.lst ((Pm.sd ns).map V.int))) p = some (.lst ((Pm.sd ns).map V.int)) := upd_same
    generalize upd H p (.lst ((Pm.sd ns).map V.int)) = H1 at e1 p1
    walk_at "s"; walk_at "ks"
    refine Pm.c_sortedRev (ex_l e1 hT) fun r nr => ?_
    have e2 : Ex H (upd H1 r (.lst ((Pm.sd ms).map V.int))) := e1.trans (Ex.new nr)
    have p2 := at_up (o := .lst ((Pm.sd ms).map V.int)) p1 nr
    have r2 : (upd H1 r (.lst ((Pm.sd ms).map V.int))) r = some (.lst ((Pm.sd ms).map V.int)) := upd_same
    generalize upd H1 r (.lst ((Pm.sd ms).map V.int)) = H2 at e2 p2 r2
    walk_at "s"; walk_at "ks"
    refine gs_forR (n := (ns.length : Int)) (fun i σ' H' => ∃ v : Option V, σ' = [some (.ref a), some (.ref b), some (.ref p), some (.ref r), some (.int (Pw.top ms i - Pw.top ns i)), v] ∧ H2 = H' ∧ ∀ j, j < i + 1 → Pw.top ms j ≤ Pw.top ns j) ?_ ?_ ?_
    · walk_at "ks"
      refine c_len (sq_of p2) ?_
      rw [List.length_map, Pm.sd_len]
      walk_at "ks"
      refine ⟨rfl, by omega, by omega, none, rfl, rfl, fun j hj => ?_⟩
      obtain rfl : j = 0 := by omega
      exact Int.le_refl _
    · rintro i σ' H' hi ⟨v, rfl, rfl, hj⟩
      obtain ⟨x, gx⟩ : ∃ x, (Pm.sd ns)[i]? = some x := ⟨_, List.getElem?_eq_getElem (by rw [Pm.sd_len]; omega)⟩
      obtain ⟨y, gy⟩ : ∃ x, (Pm.sd ms)[i]? = some x := ⟨_, List.getElem?_eq_getElem (by rw [Pm.sd_len]; omega)⟩
      have tx := Pw.top_succ gx
      have ty := Pw.top_succ gy
      walk_at "s"; walk_at "ks"
      refine r_ixL (v := .int y) (sq_of r2) (Pm.atI_map gy) ?_
      walk_at "ks"
      refine r_ixL (v := .int x) (sq_of p2) (Pm.atI_map gx) ?_
      walk_at "ks"
      walk_at "s"; walk_at "ks"
      refine ⟨fun hb => ?_, fun hb => ?_⟩
      · have h1 := of_decide_eq_true hb
        walk_at "s"; walk_at "ks"
        exact (qk (some (i + 1)) ⟨by omega, by omega, hj⟩).up e2
      · have h1 := of_decide_eq_false hb
        refine g1_next fun H3 e3 => ⟨_, e3, some (.int (i : Int)), ?_, rfl, fun j hj2 => ?_⟩
        · rw [tx, ty]
          have e : Pw.top ms i - Pw.top ns i + y - x = Pw.top ms i + y - (Pw.top ns i + x) := by omega
          rw [e]
          rfl
        by_cases c : j < i + 1
        · exact hj j c
        · obtain rfl : j = i + 1 := by omega
          omega
    · rintro σ' H' ⟨v, rfl, rfl, hj⟩
      walk_at "s"; walk_at "ks"
      exact (qk none fun k hk => hj k (by omega)).up e2

theorem ok_Lis_gift {C_PurseError C_NoGift C_Unlike C_Gap C_NoText : Addr} (T : TxtE K mg C_PurseError C_NoGift C_Unlike C_Gap C_NoText) {fI : Addr} (GT : GapT K C_Gap C_PurseError fI) {f : Addr} {fd : FuncData} (F : Fun K "_law_is_gift" "_law_is_gift" s_Lis_gift f fd) (B : Bl mg) {f_Lwhole : Addr} {fd_Lwhole : FuncData} (c_Lwhole : Cl P w K mg base CX0 1 "_law_whole" f_Lwhole fd_Lwhole ["_law_found"] (spLwhole K)) : FnOk P w K mg base CX0 2 f fd ["_law_gift", "_law_here"] (spLis_gift K) := by
  refine F.ok sc_Lis_gift (fun vs H Q E h => ?_) (fun cdv A outer s H vs Q E hr h => ?_)
  · obtain ⟨a, b, z, ns, rfl, _⟩ := h
    rfl
  · obtain ⟨a, b, ⟨gv, tk, am⟩, ns, rfl, hg, hS, f, q⟩ := h
    have f' : Pg.Fits ns gv tk am := f
    have g0 := f'.g0
    have gn := f'.gn
    have t0 := f'.t0
    have tn := f'.tn
    have d1 := f'.d1
    have ne := f'.ne
    have mo := f'.more
    have hz : SqT K H a [.int gv, .int tk, .int am] := st_of hg
    have i0 : atI [V.int gv, V.int tk, V.int am] 0 = some (.int gv) := rfl
    have i1 : atI [V.int gv, V.int tk, V.int am] 1 = some (.int tk) := rfl
    have i2 : atI [V.int gv, V.int tk, V.int am] 2 = some (.int am) := rfl
    refine ⟨_, (pss_cons (ps_if (PW.pt (pw_or (pt_not (pt_val (pe_callB (bIsi (K := K)) (by rfl) B.isinstance_ boot_isinstance (pa_cons (pv 0) (pa_cons (pe_bltn (v := .ty "tuple") (by rfl) B.tuple_ boot_tuple rfl) pa_nil))))) (pw_or1 (pt_cmpR op_ne (pe_callB (bLen (K := K)) (by rfl) B.len_ boot_len (pa_cons (pv 0) pa_nil)) pe_int (nomark _))))) (pss_one (ps_ret pe_bl)) pss_nil)
      (pss_cons (ps_for PassesOwn.never rfl (piT (K := K) (pv 0)) (pg_name (i := 2) sc_Lis_gift.nd rfl (Or.inl rfl)) (pss_one (ps_if (pt_not (pt_val (pe_call c_Lwhole.ok (hr.mono (by decide)) (by rfl) c_Lwhole.gl c_Lwhole.kp c_Lwhole.bd .nil pass0 (pa_cons (pv 2) pa_nil)))) (pss_one (ps_ret pe_bl)) pss_nil)))
      (pss_cons (ps_if (PW.pt (pw_or (pt_cmpR op_lt (pe_ix (ixt (K := K)) (pv 0) pe_int (fun _ _ => rfl)) pe_int (nomark _)) (pw_or (pt_cmpR op_ge (pe_ix (ixt (K := K)) (pv 0) pe_int (fun _ _ => rfl)) (pe_callB (bLen (K := K)) (by rfl) B.len_ boot_len (pa_cons (pv 1) pa_nil)) (nomark _)) (pw_or (pt_cmpR op_lt (pe_ix (ixt (K := K)) (pv 0) pe_int (fun _ _ => rfl)) pe_int (nomark _)) (pw_or1 (pt_cmpR op_ge (pe_ix (ixt (K := K)) (pv 0) pe_int (fun _ _ => rfl)) (pe_callB (bLen (K := K)) (by rfl) B.len_ boot_len (pa_cons (pv 1) pa_nil)) (nomark _))))))) (pss_one (ps_ret pe_bl)) pss_nil)
      (pss_one (ps_ret (pe_and (pe_cmpR op_ne (pe_ix (ixt (K := K)) (pv 0) pe_int (fun _ _ => rfl)) (pe_ix (ixt (K := K)) (pv 0) pe_int (fun _ _ => rfl)) (nomark _)) (pe_and (pe_cmpR op_gt (pe_ix (ixt (K := K)) (pv 0) pe_int (fun _ _ => rfl)) pe_int (nomark _)) (pe_one (pe_cmpR op_ge (pe_op op_sub (pe_ix (ixl (K := K)) (pv 1) (pe_ix (ixt (K := K)) (pv 0) pe_int (fun _ _ => rfl)) (fun _ _ => rfl)) (pe_ix (ixl (K := K)) (pv 1) (pe_ix (ixt (K := K)) (pv 0) pe_int (fun _ _ => rfl)) (fun _ _ => rfl))) (pe_ix (ixt (K := K)) (pv 0) pe_int (fun _ _ => rfl)) (nomark _)))))))))), Go.here ?_⟩
    walk_at "s"; walk_at "ks"
    refine c_tup_tup hg ?_
    walk_at "ks"
    refine ⟨fun hb => Bool.noConfusion hb, fun _ => ?_⟩
    walk_at "ks"
    refine c_lenT hz ?_
    walk_at "ks"
    refine ⟨fun hb => Bool.noConfusion hb, fun _ => ?_⟩
    refine gs_forT ?_
    walk_at "ks"
    refine ⟨a, [.int gv, .int tk, .int am], fun i σ' H' => ∃ v : Option V, σ' = [some (.ref a), some (.ref b), v] ∧ H = H', rfl, hz, ⟨none, rfl, rfl⟩, ?_, ?_, ?_⟩
    · rintro i σ' H' _ ⟨v, rfl, rfl⟩
      exact hz
    · rintro i x σ' H' hx ⟨v, rfl, rfl⟩
      obtain ⟨y, rfl⟩ : ∃ y : Int, x = .int y := by
        rcases i with _ | _ | _ | i
        · exact ⟨_, (Option.some.inj hx).symm⟩
        · exact ⟨_, (Option.some.inj hx).symm⟩
        · exact ⟨_, (Option.some.inj hx).symm⟩
        · cases hx
      walk_at "s"; walk_at "ks"
      refine k_Lwhole ?_
      walk_at "ks"
      refine ⟨fun hb => Bool.noConfusion hb, fun _ => ?_⟩
      exact g1_next fun H1 e1 => ⟨_, e1, _, rfl, rfl⟩
    rintro σ' H' ⟨v, rfl, rfl⟩
    walk_at "s"; walk_at "ks"
    refine r_ixT hz i0 ?_
    walk_at "ks"
    rw [decide_eq_false (by omega)]
    refine ⟨fun hb => Bool.noConfusion hb, fun _ => ?_⟩
    walk_at "ks"
    refine r_ixT hz i0 ?_
    walk_at "ks"
    refine c_len hS ?_
    rw [List.length_map]
    walk_at "ks"
    rw [decide_eq_false (by omega)]
    refine ⟨fun hb => Bool.noConfusion hb, fun _ => ?_⟩
    walk_at "ks"
    refine r_ixT hz i1 ?_
    walk_at "ks"
    rw [decide_eq_false (by omega)]
    refine ⟨fun hb => Bool.noConfusion hb, fun _ => ?_⟩
    walk_at "ks"
    refine r_ixT hz i1 ?_
    walk_at "ks"
    refine c_len hS ?_
    rw [List.length_map]
    walk_at "ks"
    rw [decide_eq_false (by omega)]
    refine ⟨fun hb => Bool.noConfusion hb, fun _ => ?_⟩
    walk_at "s"; walk_at "ks"
    refine r_ixT hz i0 ?_
    walk_at "ks"
    refine r_ixT hz i1 ?_
    walk_at "ks"
    rw [decide_eq_false (show ¬ gv = tk from fun e => ne (by rw [e]))]
    refine ⟨fun _ => ?_, fun hb => Bool.noConfusion hb⟩
    walk_at "ks"
    refine r_ixT hz i2 ?_
    walk_at "ks"
    rw [decide_eq_true (by omega)]
    refine ⟨fun _ => ?_, fun hb => Bool.noConfusion hb⟩
    walk_at "ks"
    refine r_ixT hz i0 ?_
    refine r_ixL hS (at_getD g0 gn) ?_
    walk_at "ks"
    refine r_ixT hz i1 ?_
    refine r_ixL hS (at_getD t0 tn) ?_
    walk_at "ks"
    refine r_ixT hz i2 ?_
    walk_at "ks"
    rw [decide_eq_true (by omega)]
    exact q
theorem ok_Lleads {C_PurseError C_NoGift C_Unlike C_Gap C_NoText : Addr} (T : TxtE K mg C_PurseError C_NoGift C_Unlike C_Gap C_NoText) {fI : Addr} (GT : GapT K C_Gap C_PurseError fI) {f : Addr} {fd : FuncData} (F : Fun K "_law_leads" "_law_leads" s_Lleads f fd) (B : Bl mg) {f_Ldues : Addr} {fd_Ldues : FuncData} (c_Ldues : Cl P w K mg base CX0 1 "_law_dues" f_Ldues fd_Ldues ["_law_one", "_law_other"] (spLdues K)) {f_Lis_gift : Addr} {fd_Lis_gift : FuncData} (c_Lis_gift : Cl P w K mg base CX0 2 "_law_is_gift" f_Lis_gift fd_Lis_gift ["_law_gift", "_law_here"] (spLis_gift K)) : FnOk P w K mg base CX0 3 f fd ["_law_one", "_law_other", "_law_gifts"] (spLleads K) := by
  refine F.ok sc_Lleads (fun vs H Q E h => ?_) (fun cdv A outer s H vs Q E hr h => ?_)
  · obtain ⟨a, b, g, ns, ms, gs, Gs, rfl, _⟩ := h
    rfl
  · obtain ⟨a, b, g, ns, ms, gs, Gs, rfl, hS, hT, hG, hl, he, L, q⟩ := h
    obtain ⟨cur, hw, hperm⟩ := L.walk
    have hfew := L.few
    refine ⟨_, (pss_cons (ps_if (PW.pt (pw_or (pt_not (pt_val (pe_callB (bIsi (K := K)) (by rfl) B.isinstance_ boot_isinstance (pa_cons (pv 2) (pa_cons (pe_bltn (v := .ty "list") (by rfl) B.list_ boot_list rfl) pa_nil))))) (pw_or1 (pt_cmpR op_gt (pe_callB (bLen (K := K)) (by rfl) B.len_ boot_len (pa_cons (pv 2) pa_nil)) (pe_callB (call_max2 rfl) (by rfl) B.max_ boot_max (pa_cons pe_int (pa_cons (pe_op op_sub (pe_callB (bLen (K := K)) (by rfl) B.len_ boot_len (pa_cons (pv 0) pa_nil)) pe_int) pa_nil))) (nomark _))))) (pss_one (ps_ret pe_bl)) pss_nil)
      (pss_cons (ps_set (i := 3) sc_Lleads.nd rfl (Or.inl rfl) (pe_callTy (bList (K := K)) (by rfl) B.list_ boot_list (pa_cons (pv 0) pa_nil)))
      (pss_cons (ps_set (i := 4) sc_Lleads.nd rfl (Or.inl rfl) pe_int)
      (pss_cons (ps_for PassesOwn.never rfl (piL (K := K) (pv 2)) (pg_name (i := 5) sc_Lleads.nd rfl (Or.inl rfl)) (pss_cons (ps_if (pt_not (pt_val (pe_call c_Lis_gift.ok (hr.mono (by decide)) (by rfl) c_Lis_gift.gl c_Lis_gift.kp c_Lis_gift.bd .nil pass0 (pa_cons (pv 5) (pa_cons (pv 3) pa_nil))))) (pss_one (ps_ret pe_bl)) pss_nil)
      (pss_cons (ps_asg (pe_op op_sub (pe_ix (ixl (K := K)) (pv 3) (pe_ix (ixt (K := K)) (pv 5) pe_int (fun _ _ => rfl)) (fun _ _ => rfl)) (pe_ix (ixt (K := K)) (pv 5) pe_int (fun _ _ => rfl))) (pg_sub (pv 3) (pe_ix (ixt (K := K)) (pv 5) pe_int (fun _ _ => rfl)) set_list))
      (pss_cons (ps_asg (pe_op op_add (pe_ix (ixl (K := K)) (pv 3) (pe_ix (ixt (K := K)) (pv 5) pe_int (fun _ _ => rfl)) (fun _ _ => rfl)) (pe_ix (ixt (K := K)) (pv 5) pe_int (fun _ _ => rfl))) (pg_sub (pv 3) (pe_ix (ixt (K := K)) (pv 5) pe_int (fun _ _ => rfl)) set_list))
      (pss_one (ps_set (i := 4) sc_Lleads.nd rfl (Or.inl rfl) (pe_op op_add (pv 4) (pe_ix (ixt (K := K)) (pv 5) pe_int (fun _ _ => rfl)))))))))
      (pss_one (ps_ret (pe_and (pe_cmpR op_eq (pv 4) (pe_call c_Ldues.ok (hr.mono (by decide)) (by rfl) c_Ldues.gl c_Ldues.kp c_Ldues.bd .nil pass0 (pa_cons (pv 0) (pa_cons (pv 1) pa_nil))) (nomark _)) (pe_one (pe_cmpR (oEqD (K := K) hr.units) (pe_callB (bSrt (K := K)) (by rfl) B.sorted_ boot_sorted (pa_cons (pv 3) pa_nil)) (pe_callB (bSrt (K := K)) (by rfl) B.sorted_ boot_sorted (pa_cons (pv 1) pa_nil)) (nomark _)))))))))), Go.here ?_⟩
    walk_at "s"; walk_at "ks"
    refine c_list_list hG.lst ?_
    walk_at "ks"
    refine ⟨fun hb => Bool.noConfusion hb, fun _ => ?_⟩
    walk_at "ks"
    refine c_len (sq_of hG.lst) ?_
    rw [List.length_map, hG.len]
    walk_at "ks"
    refine c_len hS ?_
    rw [List.length_map]
    walk_at "ks"
    refine c_max2 ?_
    walk_at "ks"
    rw [decide_eq_false (by split <;> omega)]
    refine ⟨fun hb => Bool.noConfusion hb, fun _ => ?_⟩
    walk_at "s"; walk_at "ks"
    refine c_list hS fun h nh => ?_
    walk_at "s"; walk_at "ks"
    have e1 : ∀ c : List Int, Ex H (upd H h (.lst (c.map V.int))) := fun c => Ex.new nh
    refine gs_forF ?_
    walk_at "ks"
    refine ⟨g, gs.map V.ref, fun i σ' H' => ∃ (c : List Int) (v : Option V), σ' = [some (.ref a), some (.ref b), some (.ref g), some (.ref h), some (.int (Pv.amounts (Gs.take i))), v] ∧ upd H h (.lst (c.map V.int)) = H' ∧ Pg.walk ns (Gs.take i) = some c, rfl, sq_of (e1 ns _ _ hG.lst), ⟨ns, none, rfl, rfl, rfl⟩, ?_, ?_, ?_⟩
    · rintro i σ' H' _ ⟨c, v, rfl, rfl, _⟩
      exact sq_of (e1 c _ _ hG.lst)
    · rintro i x σ' H' hx ⟨c, v, rfl, rfl, hc⟩
      obtain ⟨t, ht, rfl⟩ := refs_at hx
      have hil : i < Gs.length := by
        have := (List.getElem?_eq_some_iff.mp ht).1
        rw [hG.len] at this
        exact this
      obtain ⟨⟨gv, tk, am⟩, hz⟩ : ∃ z, Gs[i]? = some z := ⟨_, List.getElem?_eq_getElem hil⟩
      obtain ⟨c2, hc2, f⟩ := Pd.walk_at hw hz
      obtain rfl : c = c2 := Option.some.inj (hc.symm.trans hc2)
      have f' : Pg.Fits c gv tk am := f
      have g0 := f'.g0
      have gn := f'.gn
      have t0 := f'.t0
      have tn := f'.tn
      have ht0 := hG.tup i t _ ht hz
      have hzz : ∀ c : List Int, SqT K (upd H h (.lst (c.map V.int))) t [.int gv, .int tk, .int am] := fun c => st_of (e1 c _ _ ht0)
      have i0 : atI [V.int gv, V.int tk, V.int am] 0 = some (.int gv) := rfl
      have i1 : atI [V.int gv, V.int tk, V.int am] 1 = some (.int tk) := rfl
      have i2 : atI [V.int gv, V.int tk, V.int am] 2 = some (.int am) := rfl
      walk_at "s"; walk_at "ks"
      refine k_Lis_gift (z := (gv, tk, am)) (e1 c _ _ ht0) (sq_of upd_same) f ?_
      walk_at "ks"
      refine ⟨fun hb => Bool.noConfusion hb, fun _ => ?_⟩
      walk_at "s"; walk_at "ks"
      refine r_ixT (hzz _) i0 ?_
      refine r_ixL (sq_of upd_same) (at_getD g0 gn) ?_
      walk_at "ks"
      refine r_ixT (hzz _) i2 ?_
      walk_at "ks"
      refine r_ixT (hzz _) i0 ?_
      refine ⟨h, c.map V.int, gv, gv.toNat, rfl, rfl, upd_same, ixN_at g0 (by rw [List.length_map]; exact gn), ?_⟩
      rw [upd_upd, map_set_int]
      walk_at "s"; walk_at "ks"
      refine r_ixT (hzz _) i1 ?_
      refine r_ixL (sq_of upd_same) (at_getD t0 (by rw [List.length_set]; exact tn)) ?_
      rw [Pg.getD_set_ne f'.ne]
      walk_at "ks"
      refine r_ixT (hzz _) i2 ?_
      walk_at "ks"
      refine r_ixT (hzz _) i1 ?_
      refine ⟨h, _, tk, tk.toNat, rfl, rfl, upd_same, ixN_at t0 (by rw [List.length_map, List.length_set]; exact tn), ?_⟩
      rw [upd_upd, map_set_int]
      walk_at "s"; walk_at "ks"
      refine r_ixT (hzz _) i2 ?_
      walk_at "ks"
      refine fun H2 e2 => ⟨_, e2, Pg.done c gv tk am, some (.ref t), ?_, rfl, ?_⟩
      · rw [Pm.take_more hz, Pv.amounts_snoc]
        rfl
      · rw [Pm.take_more hz]
        exact Pg.walk_snoc hc f'
    · rintro σ' H' ⟨c, v, rfl, rfl, hc⟩
      rw [List.length_map, hG.len, List.take_length] at hc
      rw [List.length_map, hG.len, List.take_length]
      obtain rfl : cur = c := Option.some.inj (hw.symm.trans hc)
      walk_at "s"; walk_at "ks"
      refine k_Ldues (ex_l (e1 cur) hS) (ex_l (e1 cur) hT) (by omega) he ?_
      walk_at "ks"
      rw [L.am, decide_eq_true rfl]
      refine ⟨fun _ => ?_, fun hb => Bool.noConfusion hb⟩
      walk_at "ks"
      refine c_sortedA (sq_of upd_same) fun x nx => ?_
      have e2 := (e1 cur).trans (Ex.new (o := .lst ((Pm.sd cur).reverse.map V.int)) nx)
      have x2 : (upd (upd H h (.lst (cur.map V.int))) x (.lst ((Pm.sd cur).reverse.map V.int))) x = some (.lst ((Pm.sd cur).reverse.map V.int)) := upd_same
      generalize upd (upd H h (.lst (cur.map V.int))) x (.lst ((Pm.sd cur).reverse.map V.int)) = H2 at e2 x2
      walk_at "ks"
      refine c_sortedA (ex_l e2 hT) fun y ny => ?_
      rw [← Pm.sd_of_perm hperm]
      exact r_eqI2 (sq_of (at_up x2 ny)) (sq_of upd_same) (q.up (e2.trans (Ex.new ny)))

theorem ok_Lcell_at {C_PurseError C_NoGift C_Unlike C_Gap C_NoText : Addr} (T : TxtE K mg C_PurseError C_NoGift C_Unlike C_Gap C_NoText) {fI : Addr} (GT : GapT K C_Gap C_PurseError fI) {f : Addr} {fd : FuncData} (F : Fun K "_law_cell_at" "_law_cell_at" s_Lcell_at f fd) (B : Bl mg) : FnOk P w K mg base CX0 1 f fd ["_law_script", "_law_k"] (spLcell_at K) := by
  refine F.ok sc_Lcell_at (fun vs H Q E h => ?_) (fun cdv A outer s H vs Q E hr h => ?_)
  · obtain ⟨a, ns, k, rfl, _⟩ := h
    rfl
  · obtain ⟨a, ns, k, rfl, hS, h0, q⟩ := h
    refine ⟨_, (pss_cons (ps_if (pt_cmpR op_lt (pv 1) (pe_callB (bLen (K := K)) (by rfl) B.len_ boot_len (pa_cons (pv 0) pa_nil)) (nomark _)) (pss_one (ps_ret (pe_ix (ixl (K := K)) (pv 0) (pv 1) (fun _ _ => rfl)))) pss_nil)
      (pss_one (ps_ret pe_int))), Go.here ?_⟩
    walk_at "s"; walk_at "ks"
    refine c_len hS ?_
    walk_at "ks"
    rw [List.length_map]
    refine ⟨fun hb => ?_, fun hb => ?_⟩
    · walk_at "s"; walk_at "ks"
      have hb' := of_decide_eq_true hb
      refine r_ixL hS (at_getD h0 hb') ?_
      unfold cellAt at q
      rw [if_pos hb'] at q
      exact q
    · walk_at "s"; walk_at "ks"
      unfold cellAt at q
      rw [if_neg (of_decide_eq_false hb)] at q
      exact q

theorem ok_Lpurse {C_PurseError C_NoGift C_Unlike C_Gap C_NoText : Addr} (T : TxtE K mg C_PurseError C_NoGift C_Unlike C_Gap C_NoText) {fI : Addr} (GT : GapT K C_Gap C_PurseError fI) {f : Addr} {fd : FuncData} (F : Fun K "_law_purse" "_law_purse" s_Lpurse f fd) (B : Bl mg) : FnOk P w K mg base CX0 1 f fd ["_law_cell", "_law_small"] (spLpurse K) := by
  refine F.ok sc_Lpurse (fun vs H Q E h => ?_) (fun cdv A outer s H vs Q E hr h => ?_)
  · obtain ⟨c, b, rfl, _⟩ := h
    rfl
  · obtain ⟨c, b, rfl, q⟩ := h
    refine ⟨_, (pss_cons (ps_if (pt_val (pv 1)) (pss_one (ps_ret (pe_op op_sub (pe_op op_mod (pv 0) pe_int) pe_int))) pss_nil)
      (pss_one (ps_ret (pe_op op_sub (pe_op op_mod (pv 0) (pe_op op_add (pe_op op_mulX pe_int (pe_op op_pow pe_int pe_int)) pe_int)) (pe_op op_pow pe_int pe_int))))), Go.here ?_⟩
    walk_at "s"; walk_at "ks"
    refine ⟨fun hb => ?_, fun hb => ?_⟩
    · walk_at "s"; walk_at "ks"
      exact q _ (Bd.mono (by walk_at "bd") (by decide +kernel))
    · walk_at "s"; walk_at "ks"
      exact q _ (Bd.mono (by walk_at "bd") (by decide +kernel))
theorem ok_Lpulled {C_PurseError C_NoGift C_Unlike C_Gap C_NoText : Addr} (T : TxtE K mg C_PurseError C_NoGift C_Unlike C_Gap C_NoText) {fI : Addr} (GT : GapT K C_Gap C_PurseError fI) {f : Addr} {fd : FuncData} (F : Fun K "_law_pulled" "_law_pulled" s_Lpulled f fd) (B : Bl mg) : FnOk P w K mg base CX0 1 f fd ["_law_row", "_law_cells"] (spLpulled K) := by
  refine F.ok sc_Lpulled (fun vs H Q E h => ?_) (fun cdv A outer s H vs Q E hr h => ?_)
  · obtain ⟨a, c, ns, cs, rfl, _⟩ := h
    rfl
  · obtain ⟨a, c, ns, cs, rfl, hS, hC, hB, hcb, h0, hcn, hnl, q⟩ := h
    refine ⟨_, (pss_cons (ps_set (i := 2) sc_Lpulled.nd rfl (Or.inl rfl) (pe_callTy (bList (K := K)) (by rfl) B.list_ boot_list (pa_cons (pv 0) pa_nil)))
      (pss_cons (ps_for PassesOwn.never rfl (pi_range1 (by rfl) B.range_ (pa_cons (pe_op op_fdiv (pe_callB (bLen (K := K)) (by rfl) B.len_ boot_len (pa_cons (pv 1) pa_nil)) pe_int) pa_nil)) (pg_name (i := 3) sc_Lpulled.nd rfl (Or.inl rfl)) (pss_cons (ps_set (i := 4) sc_Lpulled.nd rfl (Or.inl rfl) (pe_op op_mod (pe_ix (ixl (K := K)) (pv 1) (pe_op op_add (pe_op op_mulX pe_int (pv 3)) pe_int) (fun _ _ => rfl)) (pe_callB (bLen (K := K)) (by rfl) B.len_ boot_len (pa_cons (pv 2) pa_nil))))
      (pss_cons (ps_set (i := 5) sc_Lpulled.nd rfl (Or.inl rfl) (pv 3))
      (pss_cons (ps_set (i := 6) sc_Lpulled.nd rfl (Or.inl rfl) (pv 4))
      (Evl.pss_cut (ps_if (pt_cmpR op_lt (pe_ix (ixl (K := K)) (pv 2) (pv 5) (fun _ _ => rfl)) (pe_ix (ixl (K := K)) (pv 2) (pv 6) (fun _ _ => rfl)) (nomark _)) (pss_cons (ps_set (i := 5) sc_Lpulled.nd rfl (Or.inl rfl) (pv 4))
      (pss_one (ps_set (i := 6) sc_Lpulled.nd rfl (Or.inl rfl) (pv 3)))) pss_nil)
      (pss_cons (ps_set (i := 7) sc_Lpulled.nd rfl (Or.inl rfl) (pe_op op_fdiv (pe_op op_mulX (pe_op op_sub (pe_ix (ixl (K := K)) (pv 2) (pv 5) (fun _ _ => rfl)) (pe_ix (ixl (K := K)) (pv 2) (pv 6) (fun _ _ => rfl))) (pe_op op_mod (pe_op op_mulX (pe_ix (ixl (K := K)) (pv 1) (pe_op op_add (pe_op op_mulX pe_int (pv 3)) pe_int) (fun _ _ => rfl)) pe_int) pe_int)) pe_int))
      (pss_cons (ps_asg (pe_op op_sub (pe_ix (ixl (K := K)) (pv 2) (pv 5) (fun _ _ => rfl)) (pv 7)) (pg_sub (pv 2) (pv 5) set_list))
      (pss_one (ps_asg (pe_op op_add (pe_ix (ixl (K := K)) (pv 2) (pv 6) (fun _ _ => rfl)) (pv 7)) (pg_sub (pv 2) (pv 6) set_list))))))))))
      (pss_one (ps_ret (pv 2))))), Go.here ?_⟩
    walk_at "s"; walk_at "ks"
    refine c_list hS fun p np => ?_
    have e1 : Ex H (upd H p (.lst (ns.map V.int))) := Ex.new np
    have p1 : (upd H p (.lst (ns.map V.int))) p = some (.lst (ns.map V.int)) := upd_same
    generalize upd H p (.lst (ns.map V.int)) = H1 at e1 p1
    refine gs_forR (n := (cs.length : Int) / 2) (fun i σ' H' => ∃ (ms : List Int) (v1 v2 v3 v4 v5 : Option V), σ' = [some (.ref a), some (.ref c), some (.ref p), v1, v2, v3, v4, v5] ∧ Ex H H' ∧ H' p = some (.lst (ms.map V.int)) ∧ Pw.Alike ns ms ∧ AllBd 210 ms) ?_ ?_ ?_
    · walk_at "ks"
      refine c_len (ex_l e1 hC) ?_
      rw [List.length_map]
      walk_at "ks"
      exact ⟨rfl, by omega, by omega, ns, none, none, none, none, none, rfl, e1, p1, ⟨rfl, rfl⟩, hB⟩
    · rintro i σ' H' hi ⟨ms, v1, v2, v3, v4, v5, rfl, f, p2, al, hmb⟩
      have al1 := al.1
      have bi : Bd 10 (i : Int) := by unfold Bd; omega
      have hC2 := ex_l f hC
      walk_at "s"; walk_at "ks"
      refine r_ixL hC2 (at_getD (by omega) (by omega)) ?_
      walk_at "ks"
      refine c_len (sq_of p2) ?_
      rw [List.length_map]
      walk_at "ks"
      have a0 := Int.emod_nonneg (cs.getD (2 * (i : Int) + 1).toNat 0) (show (ms.length : Int) ≠ 0 by omega)
      have a1 := Int.emod_lt_of_pos (cs.getD (2 * (i : Int) + 1).toNat 0) (show 0 < (ms.length : Int) by omega)
      obtain ⟨at', ea⟩ : ∃ j : Nat, cs.getD (2 * (i : Int) + 1).toNat 0 % (ms.length : Int) = (j : Int) := ⟨_, (Int.toNat_of_nonneg a0).symm⟩
      rw [ea] at a1
      rw [ea]
      walk_at "s"; walk_at "ks"
      walk_at "s"; walk_at "ks"
      refine gs_mid (fun σ' H'' => ∃ g t : Nat, g < ms.length ∧ t < ms.length ∧ ms.getD t 0 ≤ ms.getD g 0 ∧ σ' = [some (.ref a), some (.ref c), some (.ref p), some (.int (i : Int)), some (.int (at' : Int)), some (.int (g : Int)), some (.int (t : Int)), v5] ∧ H' = H'') ?_ ?_
      · walk_at "s"; walk_at "ks"
        refine r_ixL (sq_of p2) (at_getD (by omega) (by omega)) ?_
        walk_at "ks"
        refine r_ixL (sq_of p2) (at_getD (by omega) (by omega)) ?_
        walk_at "ks"
        rw [Int.toNat_natCast, Int.toNat_natCast]
        refine ⟨fun hb => ?_, fun hb => ?_⟩
        · have h1 := of_decide_eq_true hb
          walk_at "s"; walk_at "ks"
          walk_at "s"; walk_at "ks"
          exact fun H3 e3 => ⟨_, e3, at', i, by omega, by omega, by omega, rfl, rfl⟩
        · have h1 := of_decide_eq_false hb
          exact g1_next fun H3 e3 => ⟨_, e3, i, at', by omega, by omega, by omega, rfl, rfl⟩
      rintro σ' H'' ⟨g, t, hg, ht, hgt, rfl, rfl⟩
      have bO : Bd 211 (ms.getD g 0 - ms.getD t 0) := (hmb.get _).sub (hmb.get _)
      walk_at "s"; walk_at "ks"
      refine r_ixL (sq_of p2) (at_getD (by omega) (by omega)) ?_
      walk_at "ks"
      refine r_ixL (sq_of p2) (at_getD (by omega) (by omega)) ?_
      walk_at "ks"
      rw [Int.toNat_natCast, Int.toNat_natCast]
      generalize hO : ms.getD g 0 - ms.getD t 0 = O at bO
      refine r_ixL hC2 (at_getD (by omega) (by omega)) ?_
      walk_at "ks"
      have s0 := Int.emod_nonneg (cs.getD (2 * (i : Int) + 1).toNat 0 * 31) (show (97 : Int) ≠ 0 by decide)
      have s1 := Int.emod_lt_of_pos (cs.getD (2 * (i : Int) + 1).toNat 0 * 31) (show (0 : Int) < 97 by decide)
      generalize cs.getD (2 * (i : Int) + 1).toNat 0 * 31 % 97 = sh at s0 s1
      have bs : Bd 10 sh := by unfold Bd; omega
      walk_at "ks"
      obtain ⟨am0, am1⟩ := share_le (d := O) (c := sh) (by omega) s0 (by omega)
      generalize O * sh / 96 = am at am0 am1
      have np2 : H p = none := np
      walk_at "s"; walk_at "ks"
      refine r_ixL (sq_of p2) (at_getD (by omega) (by omega)) ?_
      walk_at "ks"
      rw [Int.toNat_natCast]
      refine ⟨p, ms.map V.int, (g : Int), g, rfl, rfl, p2, by rw [ixN_at (by omega) (by rw [List.length_map]; omega), Int.toNat_natCast], ?_⟩
      rw [map_set_int]
      have f2 := Ex.mut (o := .lst ((ms.set g (ms.getD g 0 - am)).map V.int)) f np2
      have p3 : (upd H' p (.lst ((ms.set g (ms.getD g 0 - am)).map V.int))) p = some (.lst ((ms.set g (ms.getD g 0 - am)).map V.int)) := upd_same
      generalize upd H' p (.lst ((ms.set g (ms.getD g 0 - am)).map V.int)) = H3 at f2 p3
      walk_at "s"; walk_at "ks"
      refine r_ixL (sq_of p3) (at_getD (by omega) (by rw [List.length_set]; omega)) ?_
      walk_at "ks"
      rw [Int.toNat_natCast]
      refine ⟨p, _, (t : Int), t, rfl, rfl, p3, by rw [ixN_at (by omega) (by rw [List.length_map, List.length_set]; omega), Int.toNat_natCast], ?_⟩
      rw [map_set_int]
      refine fun H4 e4 => ⟨_, e4, pull ms g t am, _, _, _, _, _, rfl, Ex.mut f2 np2, upd_same, ⟨by rw [pull_len]; exact al1, by rw [pull_sum hg ht]; exact al.2⟩, pull_bd hg ht am0 (by omega) hmb⟩
    · rintro σ' H' ⟨ms, v1, v2, v3, v4, v5, rfl, f, p2, al, hmb⟩
      walk_at "s"; walk_at "ks"
      exact q p ms H' f p2 al
theorem ok_Lone_back {C_PurseError C_NoGift C_Unlike C_Gap C_NoText : Addr} (T : TxtE K mg C_PurseError C_NoGift C_Unlike C_Gap C_NoText) {fI : Addr} (GT : GapT K C_Gap C_PurseError fI) {f : Addr} {fd : FuncData} (F : Fun K "_law_one_back" "_law_one_back" s_Lone_back f fd) (B : Bl mg) : FnOk P w K mg base CX0 1 f fd ["_law_row"] (spLone_back K) := by
  refine F.ok sc_Lone_back (fun vs H Q E h => ?_) (fun cdv A outer s H vs Q E hr h => ?_)
  · obtain ⟨a, ns, rfl, _⟩ := h
    rfl
  · obtain ⟨a, ns, rfl, hS, h0, hnl, q⟩ := h
    refine ⟨_, (pss_cons (ps_set (i := 1) sc_Lone_back.nd rfl (Or.inl rfl) (pe_callTy (bList (K := K)) (by rfl) B.list_ boot_list (pa_cons (pv 0) pa_nil)))
      (pss_cons (ps_set (i := 2) sc_Lone_back.nd rfl (Or.inl rfl) (peBm (K := K) PySem.F.plainAttrs_list PySem.F.slot_list_index PySem.F.type_list_index mt_index (pv 1) (pa_cons (pe_callB (bMax (K := K) rfl) (by rfl) B.max_ boot_max (pa_cons (pv 0) pa_nil)) pa_nil)))
      (pss_cons (ps_set (i := 3) sc_Lone_back.nd rfl (Or.inl rfl) (peBm (K := K) PySem.F.plainAttrs_list PySem.F.slot_list_index PySem.F.type_list_index mt_index (pv 1) (pa_cons (pe_callB (bMin (K := K) rfl) (by rfl) B.min_ boot_min (pa_cons (pv 0) pa_nil)) pa_nil)))
      (pss_cons (ps_asg (pe_op op_add (pe_ix (ixl (K := K)) (pv 1) (pv 2) (fun _ _ => rfl)) pe_int) (pg_sub (pv 1) (pv 2) set_list))
      (pss_cons (ps_asg (pe_op op_sub (pe_ix (ixl (K := K)) (pv 1) (pv 3) (fun _ _ => rfl)) pe_int) (pg_sub (pv 1) (pv 3) set_list))
      (pss_one (ps_ret (pv 1)))))))), Go.here ?_⟩
    walk_at "s"; walk_at "ks"
    refine c_list hS fun p np => ?_
    have e1 : Ex H (upd H p (.lst (ns.map V.int))) := Ex.new np
    have p1 : (upd H p (.lst (ns.map V.int))) p = some (.lst (ns.map V.int)) := upd_same
    generalize upd H p (.lst (ns.map V.int)) = H1 at e1 p1
    walk_at "s"; walk_at "ks"
    refine ⟨tyl (sq_of p1), ?_⟩
    walk_at "ks"
    refine c_max (ex_l e1 hS) h0 fun mx hmx _ => ?_
    walk_at "ks"
    refine m_index (sq_of p1) hmx fun t ht => ?_
    walk_at "s"; walk_at "ks"
    refine ⟨tyl (sq_of p1), ?_⟩
    walk_at "ks"
    refine c_min (ex_l e1 hS) h0 fun mn hmn _ => ?_
    walk_at "ks"
    refine m_index (sq_of p1) hmn fun g hg => ?_
    walk_at "s"; walk_at "ks"
    refine r_ixL (sq_of p1) (at_getD (by omega) (by omega)) ?_
    walk_at "ks"
    rw [Int.toNat_natCast]
    refine ⟨p, ns.map V.int, (t : Int), t, rfl, rfl, p1, by rw [ixN_at (by omega) (by rw [List.length_map]; omega), Int.toNat_natCast], ?_⟩
    rw [map_set_int]
    have f2 := Ex.mut (o := .lst ((ns.set t (ns.getD t 0 + 1)).map V.int)) e1 np
    have p3 : (upd H1 p (.lst ((ns.set t (ns.getD t 0 + 1)).map V.int))) p = some (.lst ((ns.set t (ns.getD t 0 + 1)).map V.int)) := upd_same
    generalize upd H1 p (.lst ((ns.set t (ns.getD t 0 + 1)).map V.int)) = H3 at f2 p3
    walk_at "s"; walk_at "ks"
    refine r_ixL (sq_of p3) (at_getD (by omega) (by rw [List.length_set]; omega)) ?_
    walk_at "ks"
    rw [Int.toNat_natCast]
    refine ⟨p, _, (g : Int), g, rfl, rfl, p3, by rw [ixN_at (by omega) (by rw [List.length_map, List.length_set]; omega), Int.toNat_natCast], ?_⟩
    rw [map_set_int]
    walk_at "s"; walk_at "ks"
    refine q p _ _ (Ex.mut f2 np) upd_same ⟨by rw [List.length_set, List.length_set], ?_⟩
    rw [Pt.set_sum _ _ _ (by rw [List.length_set]; omega), Pt.set_sum _ _ _ ht]
    omega
theorem ok_Lpair {C_PurseError C_NoGift C_Unlike C_Gap C_NoText : Addr} (T : TxtE K mg C_PurseError C_NoGift C_Unlike C_Gap C_NoText) {fI : Addr} (GT : GapT K C_Gap C_PurseError fI) {f : Addr} {fd : FuncData} (F : Fun K "_law_pair" "_law_pair" s_Lpair f fd) (B : Bl mg) {f_Lcell_at : Addr} {fd_Lcell_at : FuncData} (c_Lcell_at : Cl P w K mg base CX0 1 "_law_cell_at" f_Lcell_at fd_Lcell_at ["_law_script", "_law_k"] (spLcell_at K)) {f_Lone_back : Addr} {fd_Lone_back : FuncData} (c_Lone_back : Cl P w K mg base CX0 1 "_law_one_back" f_Lone_back fd_Lone_back ["_law_row"] (spLone_back K)) {f_Lpulled : Addr} {fd_Lpulled : FuncData} (c_Lpulled : Cl P w K mg base CX0 1 "_law_pulled" f_Lpulled fd_Lpulled ["_law_row", "_law_cells"] (spLpulled K)) {f_Lpurse : Addr} {fd_Lpurse : FuncData} (c_Lpurse : Cl P w K mg base CX0 1 "_law_purse" f_Lpurse fd_Lpurse ["_law_cell", "_law_small"] (spLpurse K)) : FnOk P w K mg base CX0 2 f fd ["_law_script"] (spLpair K) := by
  refine F.ok sc_Lpair (fun vs H Q E h => ?_) (fun cdv A outer s H vs Q E hr h => ?_)
  · obtain ⟨a, ss, rfl, _⟩ := h
    rfl
  · obtain ⟨a, ss, rfl, hS, hl, hB, q⟩ := h
    refine ⟨_, (pss_cons (ps_set (i := 1) sc_Lpair.nd rfl (Or.inr rfl) (pe_cmpR op_eq (pe_op op_mod (pe_call c_Lcell_at.ok (hr.mono (by decide)) (by rfl) c_Lcell_at.gl c_Lcell_at.kp c_Lcell_at.bd .nil pass0 (pa_cons (pv 0) (pa_cons pe_int pa_nil))) pe_int) pe_int (nomark _)))
      (pss_cons (ps_set (i := 2) sc_Lpair.nd rfl (Or.inr rfl) (pe_slice (sll (K := K)) (pv 0) (po_some pe_int) (po_some pe_int)))
      (Evl.pss_cut (ps_if (pt_cmpR op_eq (pe_op op_mod (pe_call c_Lcell_at.ok (hr.mono (by decide)) (by rfl) c_Lcell_at.gl c_Lcell_at.kp c_Lcell_at.bd .nil pass0 (pa_cons (pv 0) (pa_cons pe_int pa_nil))) pe_int) pe_int (nomark _)) (pss_one (ps_set (i := 2) sc_Lpair.nd rfl (Or.inr rfl) (pe_slice (sll (K := K)) (pv 0) (po_some pe_int) (po_some (pe_op op_add pe_int (pe_op op_mod (pe_op op_fdiv (pe_call c_Lcell_at.ok (hr.mono (by decide)) (by rfl) c_Lcell_at.gl c_Lcell_at.kp c_Lcell_at.bd .nil pass0 (pa_cons (pv 0) (pa_cons pe_int pa_nil))) pe_int) pe_int)))))) pss_nil)
      (pss_cons (ps_if (pt_cmpR op_eq (pe_callB (bLen (K := K)) (by rfl) B.len_ boot_len (pa_cons (pv 2) pa_nil)) pe_int (nomark _)) (pss_one (ps_ret (pe_tup (pa_cons (pe_lst pa_nil) (pa_cons (pe_lst pa_nil) pa_nil))))) pss_nil)
      (pss_cons (ps_setLc (i := 3) (own := [("_law_k", 6)]) (g := gName 6) (tt := tYes) rfl sc_Lpair.nd rfl rfl (sw_true rfl rfl rfl (by decide +kernel)) (pi_range1 (by rfl) B.range_ (pa_cons (pe_op op_fdiv (pe_op op_add (pe_callB (bLen (K := K)) (by rfl) B.len_ boot_len (pa_cons (pv 2) pa_nil)) pe_int) pe_int) pa_nil)) (blkOk_by (own := [("_law_k", 6)]) (N := n_Lpair) (sc := defScope s_Lpair) (by decide +kernel)) (fun _ _ _ _ _ => pg_name (i := 6) sc_Lpair.nd rfl (Or.inl rfl)) (fun _ _ _ _ _ => pts_nil) (fun _ _ _ _ _ => (pe_call c_Lpurse.ok (hr.mono (by decide)) (by rfl) c_Lpurse.gl c_Lpurse.kp c_Lpurse.bd .nil pass0 (pa_cons (pe_ix (ixl (K := K)) (pv 2) (pe_op op_mulX pe_int (pv 6)) (fun _ _ => rfl)) (pa_cons (pv 1) pa_nil)))))
      (pss_cons (ps_setLc (i := 4) (own := [("_law_k", 6)]) (g := gName 6) (tt := tYes) rfl sc_Lpair.nd rfl rfl (sw_true rfl rfl rfl (by decide +kernel)) (pi_range1 (by rfl) B.range_ (pa_cons (pe_op op_fdiv (pe_callB (bLen (K := K)) (by rfl) B.len_ boot_len (pa_cons (pv 2) pa_nil)) pe_int) pa_nil)) (blkOk_by (own := [("_law_k", 6)]) (N := n_Lpair) (sc := defScope s_Lpair) (by decide +kernel)) (fun _ _ _ _ _ => pg_name (i := 6) sc_Lpair.nd rfl (Or.inl rfl)) (fun _ _ _ _ _ => pts_nil) (fun _ _ _ _ _ => (pe_call c_Lpurse.ok (hr.mono (by decide)) (by rfl) c_Lpurse.gl c_Lpurse.kp c_Lpurse.bd .nil pass0 (pa_cons (pe_ix (ixl (K := K)) (pv 2) (pe_op op_add (pe_op op_mulX pe_int (pv 6)) pe_int) (fun _ _ => rfl)) (pa_cons (pv 1) pa_nil)))))
      (Evl.pss_cut (ps_if (pt_cmpR op_eq (pe_callB (bLen (K := K)) (by rfl) B.len_ boot_len (pa_cons (pv 3) pa_nil)) (pe_callB (bLen (K := K)) (by rfl) B.len_ boot_len (pa_cons (pv 4) pa_nil)) (nomark _)) (pss_one (ps_expr (peBm (K := K) PySem.F.plainAttrs_list PySem.F.slot_list_append PySem.F.type_list_append mt_append (pv 3) (pa_cons (pe_call c_Lpurse.ok (hr.mono (by decide)) (by rfl) c_Lpurse.gl c_Lpurse.kp c_Lpurse.bd .nil pass0 (pa_cons (pe_call c_Lcell_at.ok (hr.mono (by decide)) (by rfl) c_Lcell_at.gl c_Lcell_at.kp c_Lcell_at.bd .nil pass0 (pa_cons (pv 0) (pa_cons pe_int pa_nil))) (pa_cons (pv 1) pa_nil))) pa_nil)))) pss_nil)
      (pss_cons (ps_set (i := 5) sc_Lpair.nd rfl (Or.inl rfl) (pe_op op_sub (pe_callB (bSum (K := K) rfl) (by rfl) B.sum_ boot_sum (pa_cons (pv 3) pa_nil)) (pe_callB (bSum (K := K) rfl) (by rfl) B.sum_ boot_sum (pa_cons (pv 4) pa_nil))))
      (pss_cons (ps_expr (peBm (K := K) PySem.F.plainAttrs_list PySem.F.slot_list_insert PySem.F.type_list_insert mt_insert (pv 4) (pa_cons (pe_op op_mod (pe_op op_fdiv (pe_call c_Lcell_at.ok (hr.mono (by decide)) (by rfl) c_Lcell_at.gl c_Lcell_at.kp c_Lcell_at.bd .nil pass0 (pa_cons (pv 0) (pa_cons pe_int pa_nil))) pe_int) (pe_op op_add (pe_callB (bLen (K := K)) (by rfl) B.len_ boot_len (pa_cons (pv 4) pa_nil)) pe_int)) (pa_cons (pv 5) pa_nil))))
      (Evl.pss_cut (ps_if (pt_cmpR op_gt (pe_op op_mod (pe_call c_Lcell_at.ok (hr.mono (by decide)) (by rfl) c_Lcell_at.gl c_Lcell_at.kp c_Lcell_at.bd .nil pass0 (pa_cons (pv 0) (pa_cons pe_int pa_nil))) pe_int) pe_int (nomark _)) (pss_one (ps_set (i := 4) sc_Lpair.nd rfl (Or.inl rfl) (pe_call c_Lpulled.ok (hr.mono (by decide)) (by rfl) c_Lpulled.gl c_Lpulled.kp c_Lpulled.bd .nil pass0 (pa_cons (pv 3) (pa_cons (pv 2) pa_nil))))) pss_nil)
      (Evl.pss_cut (ps_if (pt_cmpR op_eq (pe_op op_mod (pe_call c_Lcell_at.ok (hr.mono (by decide)) (by rfl) c_Lcell_at.gl c_Lcell_at.kp c_Lcell_at.bd .nil pass0 (pa_cons (pv 0) (pa_cons pe_int pa_nil))) pe_int) pe_int (nomark _)) (pss_one (ps_set (i := 4) sc_Lpair.nd rfl (Or.inl rfl) (pe_call c_Lone_back.ok (hr.mono (by decide)) (by rfl) c_Lone_back.gl c_Lone_back.kp c_Lone_back.bd .nil pass0 (pa_cons (pv 4) pa_nil)))) pss_nil)
      (pss_cons (ps_if (pt_cmpR op_eq (pe_op op_mod (pe_op op_fdiv (pe_call c_Lcell_at.ok (hr.mono (by decide)) (by rfl) c_Lcell_at.gl c_Lcell_at.kp c_Lcell_at.bd .nil pass0 (pa_cons (pv 0) (pa_cons pe_int pa_nil))) pe_int) pe_int) pe_int (nomark _)) (pss_one (ps_ret (pe_tup (pa_cons (pe_op op_cat (pv 3) (pv 3)) (pa_cons (pe_op op_cat (pv 4) (pv 4)) pa_nil))))) pss_nil)
      (pss_one (ps_ret (pe_tup (pa_cons (pv 3) (pa_cons (pv 4) pa_nil))))))))))))))))), Go.here ?_⟩
    walk_at "s"; walk_at "ks"
    refine k_Lcell_at hS (by decide) ?_
    walk_at "ks"
    generalize decide (cellAt ss 0 % 3 = 1) = sm
    walk_at "s"; walk_at "ks"
    refine r_slL hS fun c nc => ?_
    obtain ⟨cs, ec, hcs1, hcs2⟩ := cut_ints ss (some 4) (some 63)
    rw [ec]
    have hcb : AllBd 1048576 cs := fun z hz => hB z (hcs1 z hz)
    have e1 : Ex H (upd H c (.lst (cs.map V.int))) := Ex.new nc
    have c1 : (upd H c (.lst (cs.map V.int))) c = some (.lst (cs.map V.int)) := upd_same
    generalize upd H c (.lst (cs.map V.int)) = H1 at e1 c1
    refine gs_mid (fun σ' H' => ∃ (c : Addr) (cs : List Int), σ' = [some (.ref a), some (.bl sm), some (.ref c), none, none, none, none] ∧ Ex H H' ∧ H' c = some (.lst (cs.map V.int)) ∧ cs.length ≤ 63 ∧ AllBd 1048576 cs) ?_ ?_
    · walk_at "s"; walk_at "ks"
      refine k_Lcell_at (ex_l e1 hS) (by decide) ?_
      walk_at "ks"
      refine ⟨fun hb => ?_, fun hb => ?_⟩
      · walk_at "s"; walk_at "ks"
        refine k_Lcell_at (ex_l e1 hS) (by decide) ?_
        walk_at "ks"
        refine r_slL (ex_l e1 hS) fun c nc => ?_
        obtain ⟨cs, ec, hcs1, hcs2⟩ := cut_ints ss (some 4) (some (4 + cellAt ss 1 / 2 % 13))
        rw [ec]
        exact fun H2 e2 => ⟨_, e2, c, cs, rfl, e1.trans (Ex.new nc), upd_same, by omega, fun z hz => hB z (hcs1 z hz)⟩
      · exact g1_next fun H2 e2 => ⟨_, e2, c, cs, rfl, e1, c1, by omega, hcb⟩
    clear hcb hcs1 hcs2 ec c1 e1 nc
    clear cs c H1
    rintro σ' H1 ⟨c, cs, rfl, e1, c1, hcl, hcb⟩
    walk_at "s"; walk_at "ks"
    refine c_len (sq_of c1) ?_
    rw [List.length_map]
    walk_at "ks"
    refine ⟨fun hb => ?_, fun hb => ?_⟩
    · walk_at "s"; walk_at "ks"
      refine ⟨(by show 0 ≤ 100000; decide), fun x nx => ?_⟩
      have e2 := e1.trans (Ex.new (o := .lst []) nx)
      have x2 : (upd H1 x (.lst [])) x = some (.lst []) := upd_same
      walk_at "ks"
      refine ⟨(by show 0 ≤ 100000; decide), fun y ny => ?_⟩
      have e3 := e2.trans (Ex.new (o := .lst []) ny)
      have x3 := at_up (o := .lst []) x2 ny
      have y3 : (upd (upd H1 x (.lst [])) y (.lst [])) y = some (.lst []) := upd_same
      walk_at "ks"
      refine ⟨(by show 2 ≤ 100000; decide), fun p np => ?_⟩
      exact q p x y [] [] _ (e3.trans (Ex.new np)) (st_of upd_same) (sq_of (at_up x3 np)) (sq_of (at_up y3 np)) ⟨rfl, rfl⟩ (by decide)
    have hn := of_decide_eq_false hb
    -- the first row
    walk_at "s"
    refine k_lcWR ?_
    walk_at "ks"
    refine c_len (sq_of c1) ?_
    rw [List.length_map]
    walk_at "ks"
    refine ⟨((cs.length : Int) + 1) / 2, fun D i acc Hy => ∃ zs : List Int, acc = zs.map V.int ∧ zs.length = i ∧ AllBd 210 zs ∧ upd H1 D (.lst acc) = Hy, rfl, by omega, by omega, fun D nD => ⟨[], rfl, rfl, (fun _ h => nomatch h), rfl⟩, ?_, ?_, ?_⟩
    · rintro D i acc Hy nD ⟨zs, rfl, hz, _, rfl⟩
      exact ⟨by rw [List.length_map, hz]; exact Nat.le_refl _, upd_same⟩
    · rintro D i acc Hy nD hi ⟨zs, rfl, hz, hzb, rfl⟩
      have c2 := at_up (o := .lst (zs.map V.int)) c1 nD
      have bi : Bd 10 (i : Int) := by unfold Bd; omega
      refine gk_name ⟨rfl, kt_yes ⟨fun _ => ?_, fun hb => Bool.noConfusion hb⟩⟩
      walk_at "ks"
      refine r_ixL (sq_of c2) (at_getD (by omega) (by omega)) ?_
      walk_at "ks"
      refine k_Lpurse fun z bz => ?_
      exact ⟨upd_same, zs ++ [z], by rw [List.map_append]; rfl, by rw [List.length_append, hz]; rfl, hzb.snoc bz, by rw [upd_upd]⟩
    rintro p acc Hy np ⟨ns, rfl, hns, hnb, rfl⟩
    have e2 := e1.trans (Ex.new (o := .lst (ns.map V.int)) np)
    have c2 := at_up (o := .lst (ns.map V.int)) c1 np
    have p2 : (upd H1 p (.lst (ns.map V.int))) p = some (.lst (ns.map V.int)) := upd_same
    generalize upd H1 p (.lst (ns.map V.int)) = H2 at e2 c2 p2
    -- the second row
    walk_at "s"
    refine k_lcWR ?_
    walk_at "ks"
    refine c_len (sq_of c2) ?_
    rw [List.length_map]
    walk_at "ks"
    refine ⟨(cs.length : Int) / 2, fun D i acc Hy => ∃ zs : List Int, acc = zs.map V.int ∧ zs.length = i ∧ upd H2 D (.lst acc) = Hy, rfl, by omega, by omega, fun D nD => ⟨[], rfl, rfl, rfl⟩, ?_, ?_, ?_⟩
    · rintro D i acc Hy nD ⟨zs, rfl, hz, rfl⟩
      exact ⟨by rw [List.length_map, hz]; exact Nat.le_refl _, upd_same⟩
    · rintro D i acc Hy nD hi ⟨zs, rfl, hz, rfl⟩
      have c3 := at_up (o := .lst (zs.map V.int)) c2 nD
      have bi : Bd 10 (i : Int) := by unfold Bd; omega
      refine gk_name ⟨rfl, kt_yes ⟨fun _ => ?_, fun hb => Bool.noConfusion hb⟩⟩
      walk_at "ks"
      refine r_ixL (sq_of c3) (at_getD (by omega) (by omega)) ?_
      walk_at "ks"
      refine k_Lpurse fun z bz => ?_
      exact ⟨upd_same, zs ++ [z], by rw [List.map_append]; rfl, by rw [List.length_append, hz]; rfl, by rw [upd_upd]⟩
    rintro r acc Hy nr ⟨ms, rfl, hms, rfl⟩
    have e3 := e2.trans (Ex.new (o := .lst (ms.map V.int)) nr)
    have p3 := at_up (o := .lst (ms.map V.int)) p2 nr
    have r3 : (upd H2 r (.lst (ms.map V.int))) r = some (.lst (ms.map V.int)) := upd_same
    have c3 := at_up (o := .lst (ms.map V.int)) c2 nr
    have hpc : c ≠ p := ne_of_none c1 np
    have hrc : c ≠ r := ne_of_none c2 nr
    have hpr : p ≠ r := ne_of_none p2 nr
    have nr0 : H r = none := fresh_back e2 nr
    have np0 : H p = none := fresh_back e1 np
    generalize upd H2 r (.lst (ms.map V.int)) = H3 at e3 p3 r3 c3
    refine gs_mid (fun σ' H' => ∃ ns : List Int, σ' = [some (.ref a), some (.bl sm), some (.ref c), some (.ref p), some (.ref r), none, none] ∧ Ex H H' ∧ H' p = some (.lst (ns.map V.int)) ∧ H' r = some (.lst (ms.map V.int)) ∧ ns.length = ms.length + 1 ∧ AllBd 210 ns ∧ cs.length / 2 ≤ ns.length ∧ H' c = some (.lst (cs.map V.int))) ?_ ?_
    · walk_at "s"; walk_at "ks"
      refine c_len (sq_of p3) ?_
      rw [List.length_map]
      walk_at "ks"
      refine c_len (sq_of r3) ?_
      rw [List.length_map]
      walk_at "ks"
      refine ⟨fun hb => ?_, fun hb => ?_⟩
      · have h1 := of_decide_eq_true hb
        walk_at "s"; walk_at "ks"
        refine ⟨tyl (sq_of p3), ?_⟩
        walk_at "ks"
        refine k_Lcell_at (ex_l e3 hS) (by decide) ?_
        walk_at "ks"
        refine k_Lpurse fun z bz => ?_
        walk_at "ks"
        refine m_append p3 (by rw [List.length_map]; omega) ?_
        refine fun H4 e4 => ⟨_, e4, ns ++ [z], rfl, Ex.mut e3 np0, by rw [upd_same, List.map_append]; rfl, by rw [upd_ne hpr.symm]; exact r3, ?_, hnb.snoc bz, ?_, by rw [upd_ne hpc]; exact c3⟩
        · rw [List.length_append]
          show ns.length + 1 = _
          omega
        · rw [List.length_append]
          show _ ≤ ns.length + 1
          omega
      · have h1 := of_decide_eq_false hb
        exact g1_next fun H4 e4 => ⟨_, e4, ns, rfl, e3, p3, r3, by omega, hnb, by omega, c3⟩
    have hml : ms.length ≤ 63 := by omega
    clear hnb hns hms c3 p3 r3 e3 e2 p2 c2 e1 c1 np nr
    clear ns H3 H2
    rintro σ' H3 ⟨ns, rfl, e3, p3, r3, hnm, hnb, hcn, c3⟩
    walk_at "s"; walk_at "ks"
    refine c_sum (sq_of p3) ?_
    walk_at "ks"
    refine c_sum (sq_of r3) ?_
    walk_at "ks"
    walk_at "s"; walk_at "ks"
    refine ⟨tyl (sq_of r3), ?_⟩
    walk_at "ks"
    refine k_Lcell_at (ex_l e3 hS) (by decide) ?_
    walk_at "ks"
    refine c_len (sq_of r3) ?_
    rw [List.length_map]
    walk_at "ks"
    have j0 := Int.emod_nonneg (cellAt ss 3 / 28) (show ((ms.length : Int) + 1) ≠ 0 by omega)
    have j1 := Int.emod_lt_of_pos (cellAt ss 3 / 28) (show 0 < ((ms.length : Int) + 1) by omega)
    obtain ⟨j, ej⟩ : ∃ j : Nat, cellAt ss 3 / 28 % ((ms.length : Int) + 1) = (j : Int) := ⟨_, (Int.toNat_of_nonneg j0).symm⟩
    rw [ej] at j1
    rw [ej]
    refine m_insert r3 (by rw [List.length_map]; omega) (by omega) ?_
    have eins : (ms.map V.int).take j ++ [V.int (ns.sum - ms.sum)] ++ (ms.map V.int).drop j = (ms.take j ++ [ns.sum - ms.sum] ++ ms.drop j).map V.int := by
      rw [List.map_append, List.map_append, List.map_take, List.map_drop]
      rfl
    rw [eins]
    have al : Pw.Alike ns (ms.take j ++ [ns.sum - ms.sum] ++ ms.drop j) := by
      refine ⟨?_, ?_⟩
      · rw [List.length_append, List.length_append, List.length_take, List.length_drop]
        show _ = _ + 1 + _
        omega
      · have h5 : ms.sum = (ms.take j).sum + (ms.drop j).sum := by
          conv => lhs; rw [← List.take_append_drop j ms]
          rw [List.sum_append]
        rw [List.sum_append, List.sum_append]
        simp only [List.sum_cons, List.sum_nil]
        omega
    have e4 := Ex.mut (o := .lst ((ms.take j ++ [ns.sum - ms.sum] ++ ms.drop j).map V.int)) e3 nr0
    have p4 : (upd H3 r (.lst ((ms.take j ++ [ns.sum - ms.sum] ++ ms.drop j).map V.int))) p = some (.lst (ns.map V.int)) := by
      rw [upd_ne hpr]
      exact p3
    have c4 : (upd H3 r (.lst ((ms.take j ++ [ns.sum - ms.sum] ++ ms.drop j).map V.int))) c = some (.lst (cs.map V.int)) := by
      rw [upd_ne hrc]
      exact c3
    have r4 : (upd H3 r (.lst ((ms.take j ++ [ns.sum - ms.sum] ++ ms.drop j).map V.int))) r = some (.lst ((ms.take j ++ [ns.sum - ms.sum] ++ ms.drop j).map V.int)) := upd_same
    generalize upd H3 r (.lst ((ms.take j ++ [ns.sum - ms.sum] ++ ms.drop j).map V.int)) = H4 at e4 p4 r4 c4
    generalize hrest : ns.sum - ms.sum = rest at al r4
    generalize ms.take j ++ [rest] ++ ms.drop j = ks at al r4
    have hnl : ns.length ≤ 64 := by omega
    have n0 : 0 < ns.length := by omega
    refine gs_mid (fun σ' H' => ∃ (r : Addr) (ms : List Int), σ' = [some (.ref a), some (.bl sm), some (.ref c), some (.ref p), some (.ref r), some (.int rest), none] ∧ Ex H H' ∧ H' p = some (.lst (ns.map V.int)) ∧ H' r = some (.lst (ms.map V.int)) ∧ Pw.Alike ns ms) ?_ ?_
    · walk_at "s"; walk_at "ks"
      refine k_Lcell_at (ex_l e4 hS) (by decide) ?_
      walk_at "ks"
      refine ⟨fun hb => ?_, fun hb => ?_⟩
      · walk_at "s"; walk_at "ks"
        refine k_Lpulled (sq_of p4) (sq_of c4) hnb hcb n0 hcn hnl fun z zs H5 e5 z5 alz => ?_
        exact fun H7 e7 => ⟨_, e7, z, zs, rfl, e4.trans e5, e5 _ _ p4, z5, alz⟩
      · exact g1_next fun H7 e7 => ⟨_, e7, r, ks, rfl, e4, p4, r4, al⟩
    clear al r4 p4 c4 e4 p3 r3 c3 e3 hnm hrest eins
    clear ks H4 H3
    rintro σ' H4 ⟨r, ks, rfl, e4, p4, r4, al⟩
    refine gs_mid (fun σ' H' => ∃ (r : Addr) (ms : List Int), σ' = [some (.ref a), some (.bl sm), some (.ref c), some (.ref p), some (.ref r), some (.int rest), none] ∧ Ex H H' ∧ H' p = some (.lst (ns.map V.int)) ∧ H' r = some (.lst (ms.map V.int)) ∧ Pw.Alike ns ms) ?_ ?_
    · walk_at "s"; walk_at "ks"
      refine k_Lcell_at (ex_l e4 hS) (by decide) ?_
      walk_at "ks"
      have all := al.1
      refine ⟨fun hb => ?_, fun hb => ?_⟩
      · walk_at "s"; walk_at "ks"
        refine k_Lone_back (sq_of r4) (by omega) (by omega) fun z zs H5 e5 z5 alz => ?_
        exact fun H7 e7 => ⟨_, e7, z, zs, rfl, e4.trans e5, e5 _ _ p4, z5, ⟨al.1.trans alz.1, al.2.trans alz.2⟩⟩
      · exact g1_next fun H7 e7 => ⟨_, e7, r, ks, rfl, e4, p4, r4, al⟩
    clear al r4 p4 e4
    clear ks H4
    rintro σ' H4 ⟨r, ks, rfl, e4, p4, r4, al⟩
    have al1 := al.1
    have al2 := al.2
    walk_at "s"; walk_at "ks"
    refine k_Lcell_at (ex_l e4 hS) (by decide) ?_
    walk_at "ks"
    refine ⟨fun hb => ?_, fun hb => ?_⟩
    · walk_at "s"; walk_at "ks"
      refine r_cat p4 p4 (by rw [List.length_map]; omega) fun x nx => ?_
      rw [← List.map_append]
      have e5 := e4.trans (Ex.new (o := .lst ((ns ++ ns).map V.int)) nx)
      have r5 := at_up (o := .lst ((ns ++ ns).map V.int)) r4 nx
      have x5 : (upd H4 x (.lst ((ns ++ ns).map V.int))) x = some (.lst ((ns ++ ns).map V.int)) := upd_same
      generalize upd H4 x (.lst ((ns ++ ns).map V.int)) = H5 at e5 r5 x5
      walk_at "ks"
      refine r_cat r5 r5 (by rw [List.length_map]; omega) fun y ny => ?_
      rw [← List.map_append]
      have e6 := e5.trans (Ex.new (o := .lst ((ks ++ ks).map V.int)) ny)
      have x6 := at_up (o := .lst ((ks ++ ks).map V.int)) x5 ny
      have y6 : (upd H5 y (.lst ((ks ++ ks).map V.int))) y = some (.lst ((ks ++ ks).map V.int)) := upd_same
      generalize upd H5 y (.lst ((ks ++ ks).map V.int)) = H6 at e6 x6 y6
      walk_at "ks"
      refine ⟨(by show 2 ≤ 100000; decide), fun p np => ?_⟩
      exact q p x y (ns ++ ns) (ks ++ ks) _ (e6.trans (Ex.new np)) (st_of upd_same) (sq_of (at_up x6 np)) (sq_of (at_up y6 np)) ⟨by rw [List.length_append, List.length_append]; omega, by rw [List.sum_append, List.sum_append]; omega⟩ (by rw [List.length_append]; omega)
    · walk_at "s"; walk_at "ks"
      refine ⟨(by show 2 ≤ 100000; decide), fun z nz => ?_⟩
      exact q z p r ns ks _ (e4.trans (Ex.new nz)) (st_of upd_same) (sq_of (at_up p4 nz)) (sq_of (at_up r4 nz)) al (by omega)
theorem ok_Lno_way {C_PurseError C_NoGift C_Unlike C_Gap C_NoText : Addr} (T : TxtE K mg C_PurseError C_NoGift C_Unlike C_Gap C_NoText) {fI : Addr} (GT : GapT K C_Gap C_PurseError fI) {f : Addr} {fd : FuncData} (F : Fun K "_law_no_way" "_law_no_way" s_Lno_way f fd) (B : Bl mg) {f_Lwhole : Addr} {fd_Lwhole : FuncData} (c_Lwhole : Cl P w K mg base CX0 1 "_law_whole" f_Lwhole fd_Lwhole ["_law_found"] (spLwhole K)) {f_way : Addr} {fd_way : FuncData} (c_way : Cl P w K mg base (L2.CX P w) 3 "way" f_way fd_way ["one", "other"] (spway K Pt C_Gap)) : FnOk P w K mg base CX0 4 f fd ["_law_one", "_law_other", "_law_due"] (spLno_way K Pt) := by
  refine F.ok sc_Lno_way (fun vs H Q E h => ?_) (fun cdv A outer s H vs Q E hr h => ?_)
  · obtain ⟨a, b, k, ns, ms, rfl, _⟩ := h
    rfl
  · obtain ⟨a, b, k, ns, ms, rfl, hS, hT, hl, al, hg, ht, q⟩ := h
    refine ⟨_, (pss_cons (ps_set (i := 3) sc_Lno_way.nd rfl (Or.inl rfl) (pe_lst (pa_cons (pe_callTy (bList (K := K)) (by rfl) B.list_ boot_list (pa_cons (pv 0) pa_nil)) (pa_cons (pe_callTy (bList (K := K)) (by rfl) B.list_ boot_list (pa_cons (pv 1) pa_nil)) pa_nil))))
      (pss_cons (ps_set (i := 4) sc_Lno_way.nd rfl (Or.inl rfl) pe_non)
      (pss_cons (ps_set (i := 5) sc_Lno_way.nd rfl (Or.inl rfl) pe_int)
      (pss_cons (ps_tryRow (K := K) rfl rfl
        (fun W pn xe tk po => (pss_one (ps_expr (pe_callS c_way.ok (hr.mono (by decide)) (by rfl) c_way.gl c_way.kp c_way.bd (fun σ => passAt tk σ) (by exact (pa_cons (pe_ix (ixl (K := K)) (pv 3) pe_int (fun _ _ => rfl)) (pa_cons (pe_ix (ixl (K := K)) (pv 3) pe_int (fun _ _ => rfl)) pa_nil)))))))
        (RowOk.one (c := .ref C_NoGift) (ts := fun _ _ _ => tNever) ⟨rfl, by decide, Or.inl T.g_NoGift⟩ (fun a oe cls d pn hz hf => pss_never) (RowOk.one (c := .ref C_Unlike) (ts := fun _ _ _ => tNever) ⟨rfl, by decide, Or.inl T.g_Unlike⟩ (fun a oe cls d pn hz hf => pss_never) (RowOk.one (c := .ref C_NoText) (ts := fun _ _ _ => tNever) ⟨rfl, by decide, Or.inl T.g_NoText⟩ (fun a oe cls d pn hz hf => pss_never) (RowOk.nam (c := .ref C_Gap) (i := 6) ⟨rfl, by decide, Or.inl T.g_Gap⟩ sc_Lno_way.nd rfl rfl (suiteG (C := C_Gap) fun a oe dd pn hz hf => (pss_cons (ps_set (i := 4) sc_Lno_way.nd rfl (Or.inl rfl) (pe_xf GT.xf GT.no hz hf (pv 6)))
      (pss_one (ps_set (i := 5) sc_Lno_way.nd rfl (Or.inl rfl) pe_int)))) RowOk.nil)))))
      (pss_cons (ps_set (i := 7) sc_Lno_way.nd rfl (Or.inl rfl) pe_bl)
      (pss_cons (ps_tryAs (K := K) (i := 6) (Wout := fun _ _ _ _ => False) rfl rfl sc_Lno_way.nd rfl rfl ⟨rfl, by decide, Or.inl T.g_PurseError⟩ takes0
        (fun W pn xe tk po => (pss_one (ps_expr (pe_callS c_way.ok (hr.mono (by decide)) (by rfl) c_way.gl c_way.kp c_way.bd (fun σ => passAt tk σ) (by exact (pa_cons (pe_ix (ixl (K := K)) (pv 3) pe_int (fun _ _ => rfl)) (pa_cons (pe_ix (ixl (K := K)) (pv 3) pe_int (fun _ _ => rfl)) pa_nil)))))))
        (suiteG (C := C_Gap) fun a oe dd pn hz hf => (pss_one (ps_set (i := 7) sc_Lno_way.nd rfl (Or.inl rfl) (pe_callB (bIsED T.CE hz hf GT.cl) (by rfl) B.isinstance_ boot_isinstance (pa_cons (pv 6) (pa_cons (pe_bltn (v := .ty "ValueError") (by rfl) B.ValueError_ boot_ValueError rfl) pa_nil)))))))
      (pss_one (ps_ret (pe_and (pe_cmpR op_eq (pv 5) pe_int (nomark _)) (pe_and (pv 7) (pe_and (pe_call c_Lwhole.ok (hr.mono (by decide)) (by rfl) c_Lwhole.gl c_Lwhole.kp c_Lwhole.bd .nil pass0 (pa_cons (pv 4) pa_nil)) (pe_and (pe_cmpR op_eq (pv 4) (pv 2) (nomark _)) (pe_one (pe_cmpR (oEqD (K := K) hr.units) (pv 3) (pe_lst (pa_cons (pv 0) (pa_cons (pv 1) pa_nil))) (nomark _))))))))))))))), Go.here ?_⟩
    walk_at "s"; walk_at "ks"
    refine c_list hS fun x nx => ?_
    have e1 : Ex H (upd H x (.lst (ns.map V.int))) := Ex.new nx
    have x1 : (upd H x (.lst (ns.map V.int))) x = some (.lst (ns.map V.int)) := upd_same
    generalize upd H x (.lst (ns.map V.int)) = H1 at e1 x1
    walk_at "ks"
    refine c_list (ex_l e1 hT) fun y ny => ?_
    have e2 : Ex H (upd H1 y (.lst (ms.map V.int))) := e1.trans (Ex.new ny)
    have x2 := at_up (o := .lst (ms.map V.int)) x1 ny
    have y2 : (upd H1 y (.lst (ms.map V.int))) y = some (.lst (ms.map V.int)) := upd_same
    generalize upd H1 y (.lst (ms.map V.int)) = H2 at e2 x2 y2
    walk_at "ks"
    refine ⟨(by show 2 ≤ 100000; decide), fun h nh => ?_⟩
    have e3 : Ex H (upd H2 h (.lst [.ref x, .ref y])) := e2.trans (Ex.new nh)
    have x3 := at_up (o := .lst [.ref x, .ref y]) x2 nh
    have y3 := at_up (o := .lst [.ref x, .ref y]) y2 nh
    have h3 : (upd H2 h (.lst [.ref x, .ref y])) h = some (.lst [.ref x, .ref y]) := upd_same
    generalize upd H2 h (.lst [.ref x, .ref y]) = H3 at e3 x3 y3 h3
    walk_at "s"; walk_at "ks"
    walk_at "s"; walk_at "ks"
    refine gs_try ?_
    refine g2_drop ?_
    refine k_callS ?_
    walk_at "ks"
    refine r_ixL (v := .ref x) (sq_of h3) rfl ?_
    walk_at "ks"
    refine r_ixL (v := .ref y) (sq_of h3) rfl ?_
    walk_at "ks"
    refine k_way (sq_of x3) (sq_of y3) hl al (ht.ext e3) (fun k2 g2 d H4 e4 hd => ?_) (fun g2 => by cases hg.uniq g2)
    obtain rfl : k = k2 := Option.some.inj (hg.uniq g2)
    refine kr_no T.e_NoGift (kr_no T.e_Unlike (kr_no T.e_NoText (kr_as T.e_Gap fun z nz => g_tsG ?_)))
    walk_at "s"
    refine k_xf (fs := [("at", .int (k : Int))]) (v := .int (k : Int)) ?_
    walk_at "ks"
    refine ⟨rfl, hd, rfl, ?_⟩
    refine g1_asgA ?_
    walk_at "ks"
    have h4 := e4 _ _ h3
    have x4 := e4 _ _ x3
    have y4 := e4 _ _ y3
    have e40 := e3.trans e4
    walk_at "s"; walk_at "ks"
    refine gs_try ?_
    refine g2_drop ?_
    refine k_callS ?_
    walk_at "ks"
    refine r_ixL (v := .ref x) (sq_of h4) rfl ?_
    walk_at "ks"
    refine r_ixL (v := .ref y) (sq_of h4) rfl ?_
    walk_at "ks"
    refine k_way (sq_of x4) (sq_of y4) hl al (ht.ext e40) (fun k2 g2 d H5 e5 hd => ?_) (fun g2 => by cases hg.uniq g2)
    obtain rfl : k = k2 := Option.some.inj (hg.uniq g2)
    refine ke_as T.e_PurseError fun z nz => g_tsG ?_
    refine g1_asgA ?_
    walk_at "ks"
    refine c_isED T.n_ValueError hd ?_
    have h5 := e5 _ _ h4
    have x5 := e5 _ _ x4
    have y5 := e5 _ _ y4
    have e50 := e40.trans e5
    walk_at "s"; walk_at "ks"
    refine ⟨fun _ => ?_, fun hb => Bool.noConfusion hb⟩
    walk_at "ks"
    refine ⟨fun _ => ?_, fun hb => Bool.noConfusion hb⟩
    walk_at "ks"
    refine k_Lwhole ?_
    walk_at "ks"
    refine ⟨fun _ => ?_, fun hb => Bool.noConfusion hb⟩
    walk_at "ks"
    rw [decide_eq_true rfl]
    refine ⟨fun _ => ?_, fun hb => Bool.noConfusion hb⟩
    walk_at "ks"
    refine ⟨(by show 2 ≤ 100000; decide), fun d nd => ?_⟩
    have e6 : Ex H5 (upd H5 d (.lst [.ref a, .ref b])) := Ex.new nd
    have e60 := e50.trans e6
    exact r_eqS (dp_two (sq_of (e6 _ _ h5)) (sq_of (e6 _ _ x5)) (sq_of (e6 _ _ y5))) (dp_two (sq_of upd_same) (ex_l e60 hS) (ex_l e60 hT)) (sh_two ns ms) (q.up e60)
theorem ok_Lgood {C_PurseError C_NoGift C_Unlike C_Gap C_NoText : Addr} (T : TxtE K mg C_PurseError C_NoGift C_Unlike C_Gap C_NoText) {fI : Addr} (GT : GapT K C_Gap C_PurseError fI) {f : Addr} {fd : FuncData} (F : Fun K "_law_good" "_law_good" s_Lgood f fd) (B : Bl mg) {f_Lgap : Addr} {fd_Lgap : FuncData} (c_Lgap : Cl P w K mg base CX0 1 "_law_gap" f_Lgap fd_Lgap ["_law_one", "_law_other"] (spLgap K)) {f_Lleads : Addr} {fd_Lleads : FuncData} (c_Lleads : Cl P w K mg base CX0 3 "_law_leads" f_Lleads fd_Lleads ["_law_one", "_law_other", "_law_gifts"] (spLleads K)) {f_Lno_way : Addr} {fd_Lno_way : FuncData} (c_Lno_way : Cl P w K mg base CX0 4 "_law_no_way" f_Lno_way fd_Lno_way ["_law_one", "_law_other", "_law_due"] (spLno_way K Pt)) {f_Lwhole : Addr} {fd_Lwhole : FuncData} (c_Lwhole : Cl P w K mg base CX0 1 "_law_whole" f_Lwhole fd_Lwhole ["_law_found"] (spLwhole K)) {f_gap : Addr} {fd_gap : FuncData} (c_gap : Cl P w K mg base CX0 2 "gap" f_gap fd_gap ["one", "other"] (spgap K)) {f_way : Addr} {fd_way : FuncData} (c_way : Cl P w K mg base (L2.CX P w) 3 "way" f_way fd_way ["one", "other"] (spway K Pt C_Gap)) : FnOk P w K mg base CX0 5 f fd ["_law_one", "_law_other"] (spLgood K Pt) := by
  refine F.ok sc_Lgood (fun vs H Q E h => ?_) (fun cdv A outer s H vs Q E hr h => ?_)
  · obtain ⟨a, b, ns, ms, rfl, _⟩ := h
    rfl
  · obtain ⟨a, b, ns, ms, rfl, hS, hT, hl, al, ht, q⟩ := h
    refine ⟨_, (pss_cons (ps_set (i := 2) sc_Lgood.nd rfl (Or.inl rfl) (pe_lst (pa_cons (pe_callTy (bList (K := K)) (by rfl) B.list_ boot_list (pa_cons (pv 0) pa_nil)) (pa_cons (pe_callTy (bList (K := K)) (by rfl) B.list_ boot_list (pa_cons (pv 1) pa_nil)) pa_nil))))
      (pss_cons (ps_set (i := 3) sc_Lgood.nd rfl (Or.inl rfl) (pe_call c_Lgap.ok (hr.mono (by decide)) (by rfl) c_Lgap.gl c_Lgap.kp c_Lgap.bd .nil pass0 (pa_cons (pv 0) (pa_cons (pv 1) pa_nil))))
      (pss_cons (ps_set (i := 4) sc_Lgood.nd rfl (Or.inl rfl) (pe_call c_gap.ok (hr.mono (by decide)) (by rfl) c_gap.gl c_gap.kp c_gap.bd .nil pass0 (pa_cons (pe_ix (ixl (K := K)) (pv 2) pe_int (fun _ _ => rfl)) (pa_cons (pe_ix (ixl (K := K)) (pv 2) pe_int (fun _ _ => rfl)) pa_nil))))
      (pss_cons (ps_if (pt_cmpR op_notN (pv 3) pe_non (nomark _)) (pss_one (ps_ret (pe_and (pe_call c_Lwhole.ok (hr.mono (by decide)) (by rfl) c_Lwhole.gl c_Lwhole.kp c_Lwhole.bd .nil pass0 (pa_cons (pv 4) pa_nil)) (pe_and (pe_cmpR op_eq (pv 4) (pv 3) (nomark _)) (pe_one (pe_call c_Lno_way.ok (hr.mono (by decide)) (by rfl) c_Lno_way.gl c_Lno_way.kp c_Lno_way.bd .nil pass0 (pa_cons (pv 0) (pa_cons (pv 1) (pa_cons (pv 3) pa_nil))))))))) pss_nil)
      (pss_cons (ps_if (pt_cmpR op_notN (pv 4) pe_non (nomark _)) (pss_one (ps_ret pe_bl)) pss_nil)
      (pss_cons (ps_set (i := 5) sc_Lgood.nd rfl (Or.inl rfl) (pe_call c_way.ok (hr.mono (by decide)) (by rfl) c_way.gl c_way.kp c_way.bd .nil passL (pa_cons (pe_ix (ixl (K := K)) (pv 2) pe_int (fun _ _ => rfl)) (pa_cons (pe_ix (ixl (K := K)) (pv 2) pe_int (fun _ _ => rfl)) pa_nil))))
      (pss_cons (ps_if (PW.pt (pw_or (pt_not (pt_val (pe_call c_Lleads.ok (hr.mono (by decide)) (by rfl) c_Lleads.gl c_Lleads.kp c_Lleads.bd .nil pass0 (pa_cons (pv 0) (pa_cons (pv 1) (pa_cons (pv 5) pa_nil)))))) (pw_or1 (pt_cmpR (oNeD (K := K) hr.units) (pv 2) (pe_lst (pa_cons (pv 0) (pa_cons (pv 1) pa_nil))) (nomark _))))) (pss_one (ps_ret pe_bl)) pss_nil)
      (pss_cons (ps_set (i := 6) sc_Lgood.nd rfl (Or.inl rfl) (pe_callTy (bList (K := K)) (by rfl) B.list_ boot_list (pa_cons (pv 5) pa_nil)))
      (pss_cons (ps_expr (peBm0 (K := K) PySem.F.plainAttrs_list PySem.F.slot_list_reverse PySem.F.type_list_reverse mt_reverse (pe_ix (ixl (K := K)) (pv 2) pe_int (fun _ _ => rfl))))
      (pss_cons (ps_expr (peBm0 (K := K) PySem.F.plainAttrs_list PySem.F.slot_list_reverse PySem.F.type_list_reverse mt_reverse (pe_ix (ixl (K := K)) (pv 2) pe_int (fun _ _ => rfl))))
      (pss_cons (ps_set (i := 7) sc_Lgood.nd rfl (Or.inl rfl) (pe_call c_way.ok (hr.mono (by decide)) (by rfl) c_way.gl c_way.kp c_way.bd .nil passL (pa_cons (pe_ix (ixl (K := K)) (pv 2) pe_int (fun _ _ => rfl)) (pa_cons (pe_ix (ixl (K := K)) (pv 2) pe_int (fun _ _ => rfl)) pa_nil))))
      (pss_cons (ps_set (i := 8) sc_Lgood.nd rfl (Or.inl rfl) (pe_callTy (bList (K := K)) (by rfl) B.list_ boot_list (pa_cons (pv 0) pa_nil)))
      (pss_cons (ps_expr (peBm0 (K := K) PySem.F.plainAttrs_list PySem.F.slot_list_reverse PySem.F.type_list_reverse mt_reverse (pv 8)))
      (pss_one (ps_ret (pe_and (pe_call c_Lleads.ok (hr.mono (by decide)) (by rfl) c_Lleads.gl c_Lleads.kp c_Lleads.bd .nil pass0 (pa_cons (pv 8) (pa_cons (pv 1) (pa_cons (pv 7) pa_nil)))) (pe_one (pe_cmpR (oEqD (K := K) hr.units) (pv 5) (pv 6) (nomark _))))))))))))))))))), Go.here ?_⟩
    have nl : ∀ {H H' : Hp} (e : ExtN H H') {b : Addr} {xs : List V}, H b = some (.lst xs) → H' b = some (.lst xs) := fun e b xs h => e _ _ h fun ps z => by cases z
    walk_at "s"; walk_at "ks"
    refine c_list hS fun x nx => ?_
    have e1 : Ex H (upd H x (.lst (ns.map V.int))) := Ex.new nx
    have x1 : (upd H x (.lst (ns.map V.int))) x = some (.lst (ns.map V.int)) := upd_same
    generalize upd H x (.lst (ns.map V.int)) = H1 at e1 x1
    walk_at "ks"
    refine c_list (ex_l e1 hT) fun y ny => ?_
    have e2 : Ex H (upd H1 y (.lst (ms.map V.int))) := e1.trans (Ex.new ny)
    have x2 := at_up (o := .lst (ms.map V.int)) x1 ny
    have y2 : (upd H1 y (.lst (ms.map V.int))) y = some (.lst (ms.map V.int)) := upd_same
    generalize upd H1 y (.lst (ms.map V.int)) = H2 at e2 x2 y2
    walk_at "ks"
    refine ⟨(by show 2 ≤ 100000; decide), fun h nh => ?_⟩
    have e3 : Ex H (upd H2 h (.lst [.ref x, .ref y])) := e2.trans (Ex.new nh)
    have x3 := at_up (o := .lst [.ref x, .ref y]) x2 nh
    have y3 := at_up (o := .lst [.ref x, .ref y]) y2 nh
    have h3 : (upd H2 h (.lst [.ref x, .ref y])) h = some (.lst [.ref x, .ref y]) := upd_same
    have hxy : x ≠ y := ne_of_none x1 ny
    have hhx : h ≠ x := (ne_of_none x2 nh).symm
    have hhy : h ≠ y := (ne_of_none y2 nh).symm
    have nx0 : H x = none := nx
    have ny0 : H y = none := fresh_back e1 ny
    generalize upd H2 h (.lst [.ref x, .ref y]) = H3 at e3 x3 y3 h3
    have al1 := al.1
    walk_at "s"; walk_at "ks"
    refine k_Lgap (ex_l e3 hS) (ex_l e3 hT) (by omega) al.1 fun o ho => ?_
    walk_at "s"; walk_at "ks"
    refine r_ixL (v := .ref x) (sq_of h3) rfl ?_
    walk_at "ks"
    refine r_ixL (v := .ref y) (sq_of h3) rfl ?_
    walk_at "ks"
    refine k_gap (sq_of x3) (sq_of y3) (by omega) al fun o2 ho2 => ?_
    obtain rfl := ho.uniq ho2
    rcases o with _ | k
    rotate_left
    · dsimp only [Pw.oV]
      walk_at "s"; walk_at "ks"
      refine r_notN ?_
      rw [decide_eq_false (fun h => by cases h)]
      walk_at "ks"
      refine ⟨fun _ => ?_, fun hb => Bool.noConfusion hb⟩
      walk_at "s"; walk_at "ks"
      refine k_Lwhole ?_
      walk_at "ks"
      refine ⟨fun _ => ?_, fun hb => Bool.noConfusion hb⟩
      walk_at "ks"
      rw [decide_eq_true rfl]
      refine ⟨fun _ => ?_, fun hb => Bool.noConfusion hb⟩
      walk_at "ks"
      exact k_Lno_way (ex_l e3 hS) (ex_l e3 hT) hl al ho (ht.ext e3) fun H4 e4 => q H4 (ExtN.of (e3.trans e4)) (ht.ext (e3.trans e4)) H4 (Ex.refl _)
    dsimp only [Pw.oV]
    walk_at "s"; walk_at "ks"
    refine r_notN ?_
    rw [decide_eq_true rfl]
    walk_at "ks"
    refine ⟨fun hb => Bool.noConfusion hb, fun _ => ?_⟩
    walk_at "s"; walk_at "ks"
    refine r_notN ?_
    rw [decide_eq_true rfl]
    walk_at "ks"
    refine ⟨fun hb => Bool.noConfusion hb, fun _ => ?_⟩
    walk_at "s"; walk_at "ks"
    refine r_ixL (v := .ref x) (sq_of h3) rfl ?_
    walk_at "ks"
    refine r_ixL (v := .ref y) (sq_of h3) rfl ?_
    walk_at "ks"
    refine fun E => k_way (sq_of x3) (sq_of y3) hl al (ht.ext e3) (fun k g => by cases ho.uniq g) fun _ gs Gs told H4 eN4 T4 np4 hG hL => ?_
    have hS4 := Pl.sq_extN (ex_l e3 hS) eN4
    have hT4 := Pl.sq_extN (ex_l e3 hT) eN4
    have h4 := nl eN4 h3
    have x4 := nl eN4 x3
    have y4 := nl eN4 y3
    have E4 := (ExtN.of e3).trans eN4
    have tx : told ≠ x := fun z => by subst z; exact np4 _ x3
    have ty : told ≠ y := fun z => by subst z; exact np4 _ y3
    walk_at "s"; walk_at "ks"
    refine k_Lleads hS4 hT4 hG hl al1 hL ?_
    walk_at "ks"
    refine ⟨fun hb => Bool.noConfusion hb, fun _ => ?_⟩
    walk_at "ks"
    refine ⟨(by show 2 ≤ 100000; decide), fun d nd => ?_⟩
    have f1 : Ex H4 (upd H4 d (.lst [.ref a, .ref b])) := Ex.new nd
    refine r_neS (dp_two (sq_of (f1 _ _ h4)) (sq_of (f1 _ _ x4)) (sq_of (f1 _ _ y4))) (dp_two (sq_of upd_same) (ex_l f1 hS4) (ex_l f1 hT4)) (sh_two ns ms) ?_
    have h5 := f1 _ _ h4
    have x5 := f1 _ _ x4
    have y5 := f1 _ _ y4
    have G5 := hG.up f1
    have E5 := E4.trans (ExtN.of f1)
    have T5 := T4.ext f1
    generalize upd H4 d (.lst [.ref a, .ref b]) = H5 at h5 x5 y5 G5 E5 T5
    clear h4 x4 y4 hG E4 T4 f1 hS4 hT4 nd
    walk_at "ks"
    refine ⟨fun hb => Bool.noConfusion hb, fun _ => ?_⟩
    walk_at "s"; walk_at "ks"
    refine c_list (sq_of G5.lst) fun kp nkp => ?_
    have f6 := Ex.new (o := .lst (gs.map V.ref)) nkp
    have k6 : (upd H5 kp (.lst (gs.map V.ref))) kp = some (.lst (gs.map V.ref)) := upd_same
    have h6 := f6 _ _ h5
    have x6 := f6 _ _ x5
    have y6 := f6 _ _ y5
    have G6 := G5.up f6
    have E6 := E5.trans (ExtN.of f6)
    have T6 := T5.ext f6
    have hkx : kp ≠ x := (ne_of_none x5 nkp).symm
    have hky : kp ≠ y := (ne_of_none y5 nkp).symm
    have hkt : kp ≠ told := (ne_of_none G5.lst nkp).symm
    generalize upd H5 kp (.lst (gs.map V.ref)) = H6 at k6 h6 x6 y6 G6 E6 T6
    clear h5 x5 y5 G5 E5 T5 f6 nkp
    -- both turned about
    walk_at "s"; walk_at "ks"
    refine r_ixL (v := .ref x) (sq_of h6) rfl ?_
    walk_at "ks"
    refine ⟨tyl (sq_of x6), ?_⟩
    refine m_reverse x6 ?_
    rw [← List.map_reverse]
    have x7 : (upd H6 x (.lst (ns.reverse.map V.int))) x = some (.lst (ns.reverse.map V.int)) := upd_same
    have h7 : (upd H6 x (.lst (ns.reverse.map V.int))) h = some (.lst [.ref x, .ref y]) := by rw [upd_ne hhx]; exact h6
    have y7 : (upd H6 x (.lst (ns.reverse.map V.int))) y = some (.lst (ms.map V.int)) := by rw [upd_ne hxy.symm]; exact y6
    have k7 : (upd H6 x (.lst (ns.reverse.map V.int))) kp = some (.lst (gs.map V.ref)) := by rw [upd_ne hkx]; exact k6
    have G7 := G6.mut (zs := ns.reverse.map V.int) x6 tx
    have E7 := extN_mut (o := .lst (ns.reverse.map V.int)) E6 nx0
    have T7 := tabs_mut (ys := ns.reverse.map V.int) T6 x6
    generalize upd H6 x (.lst (ns.reverse.map V.int)) = H7 at h7 x7 y7 k7 G7 E7 T7
    clear h6 x6 y6 k6 G6 E6 T6
    walk_at "s"; walk_at "ks"
    refine r_ixL (v := .ref y) (sq_of h7) rfl ?_
    walk_at "ks"
    refine ⟨tyl (sq_of y7), ?_⟩
    refine m_reverse y7 ?_
    rw [← List.map_reverse]
    have y8 : (upd H7 y (.lst (ms.reverse.map V.int))) y = some (.lst (ms.reverse.map V.int)) := upd_same
    have h8 : (upd H7 y (.lst (ms.reverse.map V.int))) h = some (.lst [.ref x, .ref y]) := by rw [upd_ne hhy]; exact h7
    have x8 : (upd H7 y (.lst (ms.reverse.map V.int))) x = some (.lst (ns.reverse.map V.int)) := by rw [upd_ne hxy]; exact x7
    have k8 : (upd H7 y (.lst (ms.reverse.map V.int))) kp = some (.lst (gs.map V.ref)) := by rw [upd_ne hky]; exact k7
    have G8 := G7.mut (zs := ms.reverse.map V.int) y7 ty
    have E8 := extN_mut (o := .lst (ms.reverse.map V.int)) E7 ny0
    have T8 := tabs_mut (ys := ms.reverse.map V.int) T7 y7
    generalize upd H7 y (.lst (ms.reverse.map V.int)) = H8 at h8 x8 y8 k8 G8 E8 T8
    clear h7 x7 y7 k7 G7 E7 T7
    walk_at "s"; walk_at "ks"
    refine r_ixL (v := .ref x) (sq_of h8) rfl ?_
    walk_at "ks"
    refine r_ixL (v := .ref y) (sq_of h8) rfl ?_
    walk_at "ks"
    have alr : Pw.Alike ns.reverse ms.reverse := ⟨by rw [List.length_reverse, List.length_reverse]; exact al1, by rw [Pm.perm_sum (List.reverse_perm ns), Pm.perm_sum (List.reverse_perm ms)]; exact al.2⟩
    refine fun E => k_way (sq_of x8) (sq_of y8) (by rw [List.length_reverse]; exact hl) alr T8 (fun k g => by cases (gap_rev ho).uniq g) fun _ gs2 Gs2 again H9 eN9 T9 _ hG2 hL2 => ?_
    have E9 := E8.trans eN9
    have G9 := G8.upN eN9
    have k9 := nl eN9 k8
    clear h8 x8 y8 k8 G8 E8 T8 eN9
    have hS9 := Pl.sq_extN hS E9
    have hT9 := Pl.sq_extN hT E9
    walk_at "s"; walk_at "ks"
    refine c_list hS9 fun u nu => ?_
    have u1 : (upd H9 u (.lst (ns.map V.int))) u = some (.lst (ns.map V.int)) := upd_same
    walk_at "s"; walk_at "ks"
    refine ⟨tyl (sq_of u1), ?_⟩
    refine m_reverse u1 ?_
    rw [← List.map_reverse, upd_upd]
    have f1 : Ex H9 (upd H9 u (.lst (ns.reverse.map V.int))) := Ex.new nu
    have u2 : (upd H9 u (.lst (ns.reverse.map V.int))) u = some (.lst (ns.reverse.map V.int)) := upd_same
    walk_at "s"; walk_at "ks"
    refine k_Lleads (sq_of u2) (ex_l f1 hT9) (hG2.up f1) (by rw [List.length_reverse]; exact hl) (by rw [List.length_reverse]; exact al1) (leads_rev hL2) ?_
    walk_at "ks"
    refine ⟨fun _ => ?_, fun hb => Bool.noConfusion hb⟩
    walk_at "ks"
    exact r_eqS (dp_gifts (G9.up f1).gfl) (dp_gifts ⟨sq_of (f1 _ _ k9), G9.len, (G9.up f1).gfl.tup⟩) (sh_gifts Gs) (q _ (E9.trans (ExtN.of f1)) (T9.ext f1))
theorem ok_law {C_PurseError C_NoGift C_Unlike C_Gap C_NoText : Addr} (T : TxtE K mg C_PurseError C_NoGift C_Unlike C_Gap C_NoText) {fI : Addr} (GT : GapT K C_Gap C_PurseError fI) {f : Addr} {fd : FuncData} (F : Fun K "law" "law" s_law f fd) (B : Bl mg) {f_Lgood : Addr} {fd_Lgood : FuncData} (c_Lgood : Cl P w K mg base CX0 5 "_law_good" f_Lgood fd_Lgood ["_law_one", "_law_other"] (spLgood K Pt)) {f_Lpair : Addr} {fd_Lpair : FuncData} (c_Lpair : Cl P w K mg base CX0 2 "_law_pair" f_Lpair fd_Lpair ["_law_script"] (spLpair K)) : FnOk P w K mg base CX0 6 f fd ["_law_script"] (spLaw K Pt) := by
  refine F.ok sc_law (fun vs H Q E h => ?_) (fun cdv A outer s H vs Q E hr h => ?_)
  · obtain ⟨a, ns, rfl, _⟩ := h
    rfl
  · obtain ⟨a, ss, rfl, hS, hl, hbits, hPt, q⟩ := h
    have hB : AllBd 1048576 ss := fun z hz => Bd.bits (hbits z hz)
    have T0 : Tabs (lamT Pt) H := fun p hp => by
      rw [List.mem_singleton.mp hp]
      exact TabS.nil hPt
    refine ⟨_, (pss_cons (ps_asg (pe_call c_Lpair.ok (hr.mono (by decide)) (by rfl) c_Lpair.gl c_Lpair.kp c_Lpair.bd .nil pass0 (pa_cons (pv 0) pa_nil)) (pgT (K := K) (n := 2) rfl (pgs_cons (pg_name (i := 1) sc_law.nd rfl (Or.inl rfl)) (pgs_cons (pg_name (i := 2) sc_law.nd rfl (Or.inl rfl)) pgs_nil))))
      (pss_one (ps_ret (pe_and (pe_call c_Lgood.ok (hr.mono (by decide)) (by rfl) c_Lgood.gl c_Lgood.kp c_Lgood.bd .nil pass0 (pa_cons (pv 1) (pa_cons (pv 2) pa_nil))) (pe_and (pe_call c_Lgood.ok (hr.mono (by decide)) (by rfl) c_Lgood.gl c_Lgood.kp c_Lgood.bd .nil pass0 (pa_cons (pv 2) (pa_cons (pv 1) pa_nil))) (pe_one (pe_call c_Lgood.ok (hr.mono (by decide)) (by rfl) c_Lgood.gl c_Lgood.kp c_Lgood.bd .nil pass0 (pa_cons (pe_callTy (bList (K := K)) (by rfl) B.list_ boot_list (pa_cons (pv 1) pa_nil)) (pa_cons (pe_callTy (bList (K := K)) (by rfl) B.list_ boot_list (pa_cons (pv 1) pa_nil)) pa_nil))))))))), Go.here ?_⟩
    refine gs_asgG ?_
    walk_at "ks"
    refine k_Lpair hS hl hB fun p x y ns ms H1 e1 hp hx hy al hn => ?_
    refine gk_tup2 hp (gk_name (gk_name ?_))
    have al1 := al.1
    have T1 := T0.ext e1
    walk_at "s"; walk_at "ks"
    refine k_Lgood hx hy (by omega) al T1 fun H2 e2 T2 => ?_
    have hx2 := Pl.sq_extN hx e2
    have hy2 := Pl.sq_extN hy e2
    walk_at "ks"
    refine ⟨fun _ => ?_, fun hb => Bool.noConfusion hb⟩
    walk_at "ks"
    refine k_Lgood hy2 hx2 (by omega) al.symm T2 fun H3 e3 T3 => ?_
    have hx3 := Pl.sq_extN hx2 e3
    walk_at "ks"
    refine ⟨fun _ => ?_, fun hb => Bool.noConfusion hb⟩
    walk_at "ks"
    refine c_list hx3 fun b1 nb1 => ?_
    have e4 := Ex.new (o := .lst (ns.map V.int)) nb1
    have b4 : (upd H3 b1 (.lst (ns.map V.int))) b1 = some (.lst (ns.map V.int)) := upd_same
    have T4 := T3.ext e4
    generalize upd H3 b1 (.lst (ns.map V.int)) = H4 at e4 b4 T4
    walk_at "ks"
    refine c_list (ex_l e4 hx3) fun b2 nb2 => ?_
    walk_at "ks"
    exact k_Lgood (sq_of (at_up b4 nb2)) (sq_of upd_same) (by omega) ⟨rfl, rfl⟩ (T4.ext (Ex.new nb2)) fun H9 _ _ H10 _ => q H10
end
theorem law_at {l : PySem.W.OpenLaw} {w : World} {K : PySem.W.Frag} {h : Heap} {mg : Str → Option Value} {fa cw Pt : Addr} (hT : h.get? Pt = some { cls := .none, data := .fields #[] }) (nT : K.lookup Pt = none) (C : PySem.W.codeHdIn K cw Pt = true) (X : K.In h)
    (A : ∃ fd : FuncData, (∀ (s : Shared) (v : Value), BindsTo s fd ⟨[v], []⟩ [("_law_script", v)]) ∧ ∀ base : Heap, K.In base → base.Ns mainGlobals mg → LamX.TabB base mg cw Pt → FnOk l.prog w K mg base CX0 6 fa fd ["_law_script"] (spLaw K Pt)) : LamX.LawAtS l w K CX0 6 63 "_law_script" mg fa h := by
  obtain ⟨fd, hb, hF⟩ := A
  refine ⟨fd, [(cw, Pt)], spLaw K Pt, fun p hp => by rw [List.mem_singleton.mp hp]; exact hT, fun p hp => by rw [List.mem_singleton.mp hp]; exact nT, fun p hp => by rw [List.mem_singleton.mp hp]; exact PySem.W.codeHd_of_K X C, hb, fun H a ns hl hb hH hS => ⟨a, ns, rfl, hS, hl, hb, hH _ (List.mem_singleton.mpr rfl), fun _ => rfl⟩, fun base h1 h2 h3 => hF base h1 h2 (h3 _ (List.mem_singleton.mpr rfl))⟩
theorem all_mk {l : PySem.W.OpenLaw} {w : World} {K : PySem.W.Frag} {h : Heap} {mg : Str → Option Value} {fa f1 f2 f3 f4 f5 f6 f7 f8 f9 f10 f11 f12 f13 f14 f15 f16 f17 f18 f19 : Addr} (X : K.In h) (G : h.Ns mainGlobals mg) (hfa : mg "law" = some (.ref fa))
    {od1 an1 od2 an2 od3 an3 od4 an4 od5 an5 od6 an6 od7 an7 od8 an8 od9 an9 od10 an10 od11 an11 od12 an12 od13 an13 od14 an14 od15 an15 od16 an16 od17 an17 od18 an18 od19 an19 : Option Addr} {sl1 sl2 sl3 sl4 sl5 sl6 sl7 sl8 sl9 sl10 sl11 sl12 sl13 sl14 sl15 sl16 sl17 sl18 sl19 : Array (Option Value)} {oc1 kV1 dc1 pm1 cd1 ct1 oc2 kV2 dc2 pm2 cd2 ct2 oc3 kV3 dc3 pm3 cd3 ct3 oc4 kV4 dc4 pm4 cd4 ct4 oc5 kV5 dc5 pm5 cd5 ct5 oc6 kV6 dc6 pm6 cd6 ct6 oc7 kV7 dc7 pm7 cd7 ct7 oc8 kV8 dc8 pm8 cd8 ct8 oc9 kV9 dc9 pm9 cd9 ct9 oc10 kV10 dc10 pm10 cd10 ct10 oc11 kV11 dc11 pm11 ct11 oc12 kV12 dc12 pm12 cd12 ct12 oc13 kV13 dc13 pm13 cd13 ct13 oc14 kV14 dc14 pm14 cd14 ct14 oc15 kV15 dc15 pm15 cd15 ct15 oc16 kV16 dc16 pm16 cd16 ct16 oc17 kV17 dc17 pm17 cd17 ct17 oc18 kV18 dc18 pm18 cd18 ct18 oc19 kV19 dc19 pm19 cd19 ct19 : Value} {cw Pt : Addr} {C_PurseError C_NoGift C_Unlike C_Gap C_NoText : Addr} {fI : Addr} {odI anI : Option Addr} {slI : Array (Option Value)} {ocI kVI dcI pmI cdI ctI : Value} {gnm gq : Str} {gN : Addr} {gbs gbm gsub : List Value} {gsn : List Str} {gab : Bool} {gcol : Option Bool} {gdd : Option Addr} {gk0 gk1 gk2 gk3 gk5 : Option Value}
    (a1 : PySem.W.nsIn K mainGlobals "_law_gap" = some (some (.ref f1))) (l1 : K.lookup f1 = some ⟨oc1, od1, .func (PySem.W.fnOf "_law_gap" "_law_gap" (defArgs s_Lgap) (defBody s_Lgap) (defScope s_Lgap) .none kV1 dc1 pm1 an1 cd1 ct1), sl1⟩) (c1 : PySem.W.codeIn K cd1 "_law_gap" = true) (k1 : PySem.W.keepIn K (.ref f1) = true)
    (a2 : PySem.W.nsIn K mainGlobals "_law_dues" = some (some (.ref f2))) (l2 : K.lookup f2 = some ⟨oc2, od2, .func (PySem.W.fnOf "_law_dues" "_law_dues" (defArgs s_Ldues) (defBody s_Ldues) (defScope s_Ldues) .none kV2 dc2 pm2 an2 cd2 ct2), sl2⟩) (c2 : PySem.W.codeIn K cd2 "_law_dues" = true) (k2 : PySem.W.keepIn K (.ref f2) = true)
    (a3 : PySem.W.nsIn K mainGlobals "_law_whole" = some (some (.ref f3))) (l3 : K.lookup f3 = some ⟨oc3, od3, .func (PySem.W.fnOf "_law_whole" "_law_whole" (defArgs s_Lwhole) (defBody s_Lwhole) (defScope s_Lwhole) .none kV3 dc3 pm3 an3 cd3 ct3), sl3⟩) (c3 : PySem.W.codeIn K cd3 "_law_whole" = true) (k3 : PySem.W.keepIn K (.ref f3) = true)
    (a4 : PySem.W.nsIn K mainGlobals "_law_is_gift" = some (some (.ref f4))) (l4 : K.lookup f4 = some ⟨oc4, od4, .func (PySem.W.fnOf "_law_is_gift" "_law_is_gift" (defArgs s_Lis_gift) (defBody s_Lis_gift) (defScope s_Lis_gift) .none kV4 dc4 pm4 an4 cd4 ct4), sl4⟩) (c4 : PySem.W.codeIn K cd4 "_law_is_gift" = true) (k4 : PySem.W.keepIn K (.ref f4) = true)
    (a5 : PySem.W.nsIn K mainGlobals "_law_leads" = some (some (.ref f5))) (l5 : K.lookup f5 = some ⟨oc5, od5, .func (PySem.W.fnOf "_law_leads" "_law_leads" (defArgs s_Lleads) (defBody s_Lleads) (defScope s_Lleads) .none kV5 dc5 pm5 an5 cd5 ct5), sl5⟩) (c5 : PySem.W.codeIn K cd5 "_law_leads" = true) (k5 : PySem.W.keepIn K (.ref f5) = true)
    (a6 : PySem.W.nsIn K mainGlobals "together" = some (some (.ref f6))) (l6 : K.lookup f6 = some ⟨oc6, od6, .func (PySem.W.fnOf "together" "together" (defArgs s_together) (defBody s_together) (defScope s_together) .none kV6 dc6 pm6 an6 cd6 ct6), sl6⟩) (c6 : PySem.W.codeIn K cd6 "together" = true) (k6 : PySem.W.keepIn K (.ref f6) = true)
    (a7 : PySem.W.nsIn K mainGlobals "tops" = some (some (.ref f7))) (l7 : K.lookup f7 = some ⟨oc7, od7, .func (PySem.W.fnOf "tops" "tops" (defArgs s_tops) (defBody s_tops) (defScope s_tops) .none kV7 dc7 pm7 an7 cd7 ct7), sl7⟩) (c7 : PySem.W.codeIn K cd7 "tops" = true) (k7 : PySem.W.keepIn K (.ref f7) = true)
    (a8 : PySem.W.nsIn K mainGlobals "gap" = some (some (.ref f8))) (l8 : K.lookup f8 = some ⟨oc8, od8, .func (PySem.W.fnOf "gap" "gap" (defArgs s_gap) (defBody s_gap) (defScope s_gap) .none kV8 dc8 pm8 an8 cd8 ct8), sl8⟩) (c8 : PySem.W.codeIn K cd8 "gap" = true) (k8 : PySem.W.keepIn K (.ref f8) = true)
    (a9 : PySem.W.nsIn K mainGlobals "last_above" = some (some (.ref f9))) (l9 : K.lookup f9 = some ⟨oc9, od9, .func (PySem.W.fnOf "last_above" "last_above" (defArgs s_last_above) (defBody s_last_above) (defScope s_last_above) .none kV9 dc9 pm9 an9 cd9 ct9), sl9⟩) (c9 : PySem.W.codeIn K cd9 "last_above" = true) (k9 : PySem.W.keepIn K (.ref f9) = true)
    (a10 : PySem.W.nsIn K mainGlobals "next_below" = some (some (.ref f10))) (l10 : K.lookup f10 = some ⟨oc10, od10, .func (PySem.W.fnOf "next_below" "next_below" (defArgs s_next_below) (defBody s_next_below) (defScope s_next_below) .none kV10 dc10 pm10 an10 cd10 ct10), sl10⟩) (c10 : PySem.W.codeIn K cd10 "next_below" = true) (k10 : PySem.W.keepIn K (.ref f10) = true)
    (a11 : PySem.W.nsIn K mainGlobals "way" = some (some (.ref f11))) (l11 : K.lookup f11 = some ⟨oc11, od11, .func (PySem.W.fnOf "way" "way" (defArgs s_way) (defBody s_way) (defScope s_way) .none kV11 dc11 pm11 an11 (.ref cw) ct11), sl11⟩) (c11 : PySem.W.codeIn K (.ref cw) "way" = true) (k11 : PySem.W.keepIn K (.ref f11) = true)
    (a12 : PySem.W.nsIn K mainGlobals "_law_no_way" = some (some (.ref f12))) (l12 : K.lookup f12 = some ⟨oc12, od12, .func (PySem.W.fnOf "_law_no_way" "_law_no_way" (defArgs s_Lno_way) (defBody s_Lno_way) (defScope s_Lno_way) .none kV12 dc12 pm12 an12 cd12 ct12), sl12⟩) (c12 : PySem.W.codeIn K cd12 "_law_no_way" = true) (k12 : PySem.W.keepIn K (.ref f12) = true)
    (a13 : PySem.W.nsIn K mainGlobals "_law_good" = some (some (.ref f13))) (l13 : K.lookup f13 = some ⟨oc13, od13, .func (PySem.W.fnOf "_law_good" "_law_good" (defArgs s_Lgood) (defBody s_Lgood) (defScope s_Lgood) .none kV13 dc13 pm13 an13 cd13 ct13), sl13⟩) (c13 : PySem.W.codeIn K cd13 "_law_good" = true) (k13 : PySem.W.keepIn K (.ref f13) = true)
    (a14 : PySem.W.nsIn K mainGlobals "_law_cell_at" = some (some (.ref f14))) (l14 : K.lookup f14 = some ⟨oc14, od14, .func (PySem.W.fnOf "_law_cell_at" "_law_cell_at" (defArgs s_Lcell_at) (defBody s_Lcell_at) (defScope s_Lcell_at) .none kV14 dc14 pm14 an14 cd14 ct14), sl14⟩) (c14 : PySem.W.codeIn K cd14 "_law_cell_at" = true) (k14 : PySem.W.keepIn K (.ref f14) = true)
    (a15 : PySem.W.nsIn K mainGlobals "_law_one_back" = some (some (.ref f15))) (l15 : K.lookup f15 = some ⟨oc15, od15, .func (PySem.W.fnOf "_law_one_back" "_law_one_back" (defArgs s_Lone_back) (defBody s_Lone_back) (defScope s_Lone_back) .none kV15 dc15 pm15 an15 cd15 ct15), sl15⟩) (c15 : PySem.W.codeIn K cd15 "_law_one_back" = true) (k15 : PySem.W.keepIn K (.ref f15) = true)
    (a16 : PySem.W.nsIn K mainGlobals "_law_pulled" = some (some (.ref f16))) (l16 : K.lookup f16 = some ⟨oc16, od16, .func (PySem.W.fnOf "_law_pulled" "_law_pulled" (defArgs s_Lpulled) (defBody s_Lpulled) (defScope s_Lpulled) .none kV16 dc16 pm16 an16 cd16 ct16), sl16⟩) (c16 : PySem.W.codeIn K cd16 "_law_pulled" = true) (k16 : PySem.W.keepIn K (.ref f16) = true)
    (a17 : PySem.W.nsIn K mainGlobals "_law_purse" = some (some (.ref f17))) (l17 : K.lookup f17 = some ⟨oc17, od17, .func (PySem.W.fnOf "_law_purse" "_law_purse" (defArgs s_Lpurse) (defBody s_Lpurse) (defScope s_Lpurse) .none kV17 dc17 pm17 an17 cd17 ct17), sl17⟩) (c17 : PySem.W.codeIn K cd17 "_law_purse" = true) (k17 : PySem.W.keepIn K (.ref f17) = true)
    (a18 : PySem.W.nsIn K mainGlobals "_law_pair" = some (some (.ref f18))) (l18 : K.lookup f18 = some ⟨oc18, od18, .func (PySem.W.fnOf "_law_pair" "_law_pair" (defArgs s_Lpair) (defBody s_Lpair) (defScope s_Lpair) .none kV18 dc18 pm18 an18 cd18 ct18), sl18⟩) (c18 : PySem.W.codeIn K cd18 "_law_pair" = true) (k18 : PySem.W.keepIn K (.ref f18) = true)
    (a19 : PySem.W.nsIn K mainGlobals "law" = some (some (.ref f19))) (l19 : K.lookup f19 = some ⟨oc19, od19, .func (PySem.W.fnOf "law" "law" (defArgs s_law) (defBody s_law) (defScope s_law) .none kV19 dc19 pm19 an19 cd19 ct19), sl19⟩) (c19 : PySem.W.codeIn K cd19 "law" = true) (k19 : PySem.W.keepIn K (.ref f19) = true)
    (z_ValueError : PySem.W.nsIn K mainGlobals "ValueError" = some none) (z_bool : PySem.W.nsIn K mainGlobals "bool" = some none) (z_int : PySem.W.nsIn K mainGlobals "int" = some none) (z_isinstance : PySem.W.nsIn K mainGlobals "isinstance" = some none) (z_len : PySem.W.nsIn K mainGlobals "len" = some none) (z_list : PySem.W.nsIn K mainGlobals "list" = some none) (z_max : PySem.W.nsIn K mainGlobals "max" = some none) (z_min : PySem.W.nsIn K mainGlobals "min" = some none) (z_range : PySem.W.nsIn K mainGlobals "range" = some none) (z_sorted : PySem.W.nsIn K mainGlobals "sorted" = some none) (z_sum : PySem.W.nsIn K mainGlobals "sum" = some none) (z_tuple : PySem.W.nsIn K mainGlobals "tuple" = some none)
    (ePurseError : PySem.W.nsIn K mainGlobals "PurseError" = some (some (.ref C_PurseError))) (eNoGift : PySem.W.nsIn K mainGlobals "NoGift" = some (some (.ref C_NoGift))) (eUnlike : PySem.W.nsIn K mainGlobals "Unlike" = some (some (.ref C_Unlike))) (eGap : PySem.W.nsIn K mainGlobals "Gap" = some (some (.ref C_Gap))) (eNoText : PySem.W.nsIn K mainGlobals "NoText" = some (some (.ref C_NoText))) (kN : PySem.W.keepIn K (.ref C_Gap) = true) (bN : PySem.W.subIn K (.ref C_Gap) (.type "BaseException") = some true) (tN : PySem.W.typeIn K (.ref C_Gap) = some (.type "type")) (q1PurseError : PySem.W.subIn K (.ref C_PurseError) (.type "BaseException") = some true) (q2PurseError : PySem.W.hasDictIn K C_PurseError = true) (q3PurseError : PySem.W.typeIn K (.ref C_PurseError) = some (.type "type")) (q4PurseError : PySem.W.subIn K (.ref C_Gap) (.ref C_PurseError) = some true) (q1NoGift : PySem.W.subIn K (.ref C_NoGift) (.type "BaseException") = some true) (q2NoGift : PySem.W.hasDictIn K C_NoGift = true) (q3NoGift : PySem.W.typeIn K (.ref C_NoGift) = some (.type "type")) (q4NoGift : PySem.W.subIn K (.ref C_Gap) (.ref C_NoGift) = some false) (q1Unlike : PySem.W.subIn K (.ref C_Unlike) (.type "BaseException") = some true) (q2Unlike : PySem.W.hasDictIn K C_Unlike = true) (q3Unlike : PySem.W.typeIn K (.ref C_Unlike) = some (.type "type")) (q4Unlike : PySem.W.subIn K (.ref C_Gap) (.ref C_Unlike) = some false) (q1NoText : PySem.W.subIn K (.ref C_NoText) (.type "BaseException") = some true) (q2NoText : PySem.W.hasDictIn K C_NoText = true) (q3NoText : PySem.W.typeIn K (.ref C_NoText) = some (.type "type")) (q4NoText : PySem.W.subIn K (.ref C_Gap) (.ref C_NoText) = some false) (q2Gap : PySem.W.hasDictIn K C_Gap = true) (q4Gap : PySem.W.subIn K (.ref C_Gap) (.ref C_Gap) = some true) (ga : PySem.W.findIn K (.ref C_Gap) "__getattribute__" = some (some (.builtin "BaseException.__getattribute__"))) (gg : PySem.W.findIn K (.ref C_Gap) "__getattr__" = some none) (hN : PySem.W.hasDictIn K C_Gap = true) (gc : PySem.W.findIn K (.ref C_Gap) "__class__" = some (some (.builtin "object.__class__"))) (gs : PySem.W.specialIn K (.builtin "object.__class__") "__get__" = some (some (.builtin "getset_descriptor.__get__"))) (gt : PySem.W.takesIn K (.builtin "object.__class__") = some true) (mo : PySem.W.mroIn K C_Gap (.type "object") = some true) (kitValueError : PySem.W.kitOne K (.ref C_Gap) (.type "ValueError") = some true) (iG : PySem.W.findIn K (.ref C_Gap) "__init__" = some (some (.ref fI))) (lI : K.lookup fI = some ⟨ocI, odI, .func (PySem.W.fnOf "__init__" "Gap.__init__" (defArgs s_init) (defBody s_init) (defScope s_init) .none kVI dcI pmI anI cdI ctI), slI⟩) (cI : PySem.W.codeIn K cdI "Gap.__init__" = true) (kI : PySem.W.keepIn K (.ref fI) = true) (tI : PySem.W.typeIn K (.ref fI) = some (.type "function")) (lG : K.lookup C_Gap = some (excClassObj gnm gq C_Gap gN gbs gbm true gsn gsub gab gcol gdd gk0 gk1 gk2 gk3 gk5 "ValueError.__new__")) (rG : PySem.HandSPX.refsVE gbm = true) (saG : PySem.W.findIn K (.ref C_Gap) "__setattr__" = some (some (.builtin "object.__setattr__"))) (noG : PySem.W.findIn K (.ref C_Gap) "at" = some none) (clG : (PySem.W.clsIn K C_Gap).isSome = true) (rdP : PySem.W.readsIn K C_PurseError (.type "type") = true) (gaP : PySem.W.specialIn K (.ref C_PurseError) "__getattribute__" = some (some (.builtin "type.__getattribute__"))) (vVP : PySem.W.findCls K (.ref C_PurseError) (.type "type") "__init__" = some (.val (.builtin "ValueError.__init__")))
    : ∃ fd : FuncData, (∀ (s : Shared) (v : Value), BindsTo s fd ⟨[v], []⟩ [("_law_script", v)]) ∧ ∀ base : Heap, K.In base → base.Ns mainGlobals mg → LamX.TabB base mg cw Pt → FnOk l.prog w K mg base CX0 6 fa fd ["_law_script"] (spLaw K Pt) := by
  have e := hfa.symm.trans (PySem.W.mg_of X G a19)
  cases e
  have B : Bl mg := ⟨PySem.W.mg_none_of X G z_ValueError, PySem.W.mg_none_of X G z_bool, PySem.W.mg_none_of X G z_int, PySem.W.mg_none_of X G z_isinstance, PySem.W.mg_none_of X G z_len, PySem.W.mg_none_of X G z_list, PySem.W.mg_none_of X G z_max, PySem.W.mg_none_of X G z_min, PySem.W.mg_none_of X G z_range, PySem.W.mg_none_of X G z_sorted, PySem.W.mg_none_of X G z_sum, PySem.W.mg_none_of X G z_tuple⟩
  have T : TxtE K mg C_PurseError C_NoGift C_Unlike C_Gap C_NoText := ⟨PySem.W.mg_of X G ePurseError, PySem.W.mg_of X G eNoGift, PySem.W.mg_of X G eUnlike, PySem.W.mg_of X G eGap, PySem.W.mg_of X G eNoText, kN, bN, tN, PySem.W.exm_ref q1PurseError q2PurseError q3PurseError q4PurseError, PySem.W.exm_ref q1NoGift q2NoGift q3NoGift q4NoGift, PySem.W.exm_ref q1Unlike q2Unlike q3Unlike q4Unlike, PySem.W.exm_ref q1NoText q2NoText q3NoText q4NoText, PySem.W.exm_ref bN q2Gap tN q4Gap, ⟨ga, gg, bN, hN, gc, gs, gt, mo⟩, kitValueError⟩
  have GT : GapT K C_Gap C_PurseError fI := ⟨⟨⟨gnm, gq, gN, gbs, gbm, gsn, gsub, gab, gcol, gdd, gk0, gk1, gk2, gk3, gk5, lG, rG⟩, saG, bN, tN, kN⟩, noG, iG, tI, ⟨ga, gg, bN, hN⟩, clG, rdP, gaP, vVP⟩
  have FI := fun_mk (st := s_init) lI cI kI
  have bI := FI.binds (ps := ["self", "at"]) fun _ _ _ _ _ _ us hl => match us, hl with | [_, _], _ => rfl
  have F1 := fun_mk (st := s_Lgap) l1 c1 k1
  have b1 := F1.binds (ps := ["_law_one", "_law_other"]) fun _ _ _ _ _ _ us hl => match us, hl with | [_, _], _ => rfl
  have F2 := fun_mk (st := s_Ldues) l2 c2 k2
  have b2 := F2.binds (ps := ["_law_one", "_law_other"]) fun _ _ _ _ _ _ us hl => match us, hl with | [_, _], _ => rfl
  have F3 := fun_mk (st := s_Lwhole) l3 c3 k3
  have b3 := F3.binds (ps := ["_law_found"]) fun _ _ _ _ _ _ us hl => match us, hl with | [_], _ => rfl
  have F4 := fun_mk (st := s_Lis_gift) l4 c4 k4
  have b4 := F4.binds (ps := ["_law_gift", "_law_here"]) fun _ _ _ _ _ _ us hl => match us, hl with | [_, _], _ => rfl
  have F5 := fun_mk (st := s_Lleads) l5 c5 k5
  have b5 := F5.binds (ps := ["_law_one", "_law_other", "_law_gifts"]) fun _ _ _ _ _ _ us hl => match us, hl with | [_, _, _], _ => rfl
  have F6 := fun_mk (st := s_together) l6 c6 k6
  have b6 := F6.binds (ps := ["one", "other"]) fun _ _ _ _ _ _ us hl => match us, hl with | [_, _], _ => rfl
  have F7 := fun_mk (st := s_tops) l7 c7 k7
  have b7 := F7.binds (ps := ["row"]) fun _ _ _ _ _ _ us hl => match us, hl with | [_], _ => rfl
  have F8 := fun_mk (st := s_gap) l8 c8 k8
  have b8 := F8.binds (ps := ["one", "other"]) fun _ _ _ _ _ _ us hl => match us, hl with | [_, _], _ => rfl
  have F9 := fun_mk (st := s_last_above) l9 c9 k9
  have b9 := F9.binds (ps := ["held", "goals"]) fun _ _ _ _ _ _ us hl => match us, hl with | [_, _], _ => rfl
  have F10 := fun_mk (st := s_next_below) l10 c10 k10
  have b10 := F10.binds (ps := ["held", "goals", "rank"]) fun _ _ _ _ _ _ us hl => match us, hl with | [_, _, _], _ => rfl
  have F11 := funC_mk (st := s_way) l11 c11 k11
  have b11 := (fun_mk (st := s_way) l11 c11 k11).binds (ps := ["one", "other"]) fun _ _ _ _ _ _ us hl => match us, hl with | [_, _], _ => rfl
  have F12 := fun_mk (st := s_Lno_way) l12 c12 k12
  have b12 := F12.binds (ps := ["_law_one", "_law_other", "_law_due"]) fun _ _ _ _ _ _ us hl => match us, hl with | [_, _, _], _ => rfl
  have F13 := fun_mk (st := s_Lgood) l13 c13 k13
  have b13 := F13.binds (ps := ["_law_one", "_law_other"]) fun _ _ _ _ _ _ us hl => match us, hl with | [_, _], _ => rfl
  have F14 := fun_mk (st := s_Lcell_at) l14 c14 k14
  have b14 := F14.binds (ps := ["_law_script", "_law_k"]) fun _ _ _ _ _ _ us hl => match us, hl with | [_, _], _ => rfl
  have F15 := fun_mk (st := s_Lone_back) l15 c15 k15
  have b15 := F15.binds (ps := ["_law_row"]) fun _ _ _ _ _ _ us hl => match us, hl with | [_], _ => rfl
  have F16 := fun_mk (st := s_Lpulled) l16 c16 k16
  have b16 := F16.binds (ps := ["_law_row", "_law_cells"]) fun _ _ _ _ _ _ us hl => match us, hl with | [_, _], _ => rfl
  have F17 := fun_mk (st := s_Lpurse) l17 c17 k17
  have b17 := F17.binds (ps := ["_law_cell", "_law_small"]) fun _ _ _ _ _ _ us hl => match us, hl with | [_, _], _ => rfl
  have F18 := fun_mk (st := s_Lpair) l18 c18 k18
  have b18 := F18.binds (ps := ["_law_script"]) fun _ _ _ _ _ _ us hl => match us, hl with | [_], _ => rfl
  have F19 := fun_mk (st := s_law) l19 c19 k19
  refine ⟨PySem.W.fnOf "law" "law" (defArgs s_law) (defBody s_law) (defScope s_law) .none kV19 dc19 pm19 an19 cd19 ct19, fun s v => .of_eq rfl, fun base _ _ TBw => ?_⟩
  have cI' : FnOk l.prog w K mg base CX0 1 fI _ ["self", "at"] (spIni K "at") := ok_init T GT FI B
  have c_Lgap : Cl l.prog w K mg base CX0 1 "_law_gap" f1 _ ["_law_one", "_law_other"] (spLgap K) := ⟨ok_Lgap T GT F1 B, PySem.W.mg_of X G a1, k1, b1⟩
  have c_Ldues : Cl l.prog w K mg base CX0 1 "_law_dues" f2 _ ["_law_one", "_law_other"] (spLdues K) := ⟨ok_Ldues T GT F2 B, PySem.W.mg_of X G a2, k2, b2⟩
  have c_Lwhole : Cl l.prog w K mg base CX0 1 "_law_whole" f3 _ ["_law_found"] (spLwhole K) := ⟨ok_Lwhole T GT F3 B, PySem.W.mg_of X G a3, k3, b3⟩
  have c_Lis_gift : Cl l.prog w K mg base CX0 2 "_law_is_gift" f4 _ ["_law_gift", "_law_here"] (spLis_gift K) := ⟨ok_Lis_gift T GT F4 B c_Lwhole, PySem.W.mg_of X G a4, k4, b4⟩
  have c_Lleads : Cl l.prog w K mg base CX0 3 "_law_leads" f5 _ ["_law_one", "_law_other", "_law_gifts"] (spLleads K) := ⟨ok_Lleads T GT F5 B c_Ldues c_Lis_gift, PySem.W.mg_of X G a5, k5, b5⟩
  have c_together : Cl l.prog w K mg base CX0 1 "together" f6 _ ["one", "other"] (sptogether K) := ⟨ok_together T GT F6 B, PySem.W.mg_of X G a6, k6, b6⟩
  have c_tops : Cl l.prog w K mg base CX0 1 "tops" f7 _ ["row"] (spTops K) := ⟨ok_tops T GT F7 B, PySem.W.mg_of X G a7, k7, b7⟩
  have c_gap : Cl l.prog w K mg base CX0 2 "gap" f8 _ ["one", "other"] (spgap K) := ⟨ok_gap T GT F8 B c_together c_tops, PySem.W.mg_of X G a8, k8, b8⟩
  have c_last_above : Cl l.prog w K mg base CX0 1 "last_above" f9 _ ["held", "goals"] (splast_above K) := ⟨ok_last_above T GT F9 B, PySem.W.mg_of X G a9, k9, b9⟩
  have c_next_below : Cl l.prog w K mg base CX0 1 "next_below" f10 _ ["held", "goals", "rank"] (spnext_below K) := ⟨ok_next_below T GT F10 B, PySem.W.mg_of X G a10, k10, b10⟩
  have c_way : Cl l.prog w K mg base (L2.CX l.prog w) 3 "way" f11 _ ["one", "other"] (spway K Pt C_Gap) := ⟨ok_way T GT F11 TBw B c_gap c_last_above c_next_below cI' bI, PySem.W.mg_of X G a11, k11, b11⟩
  have c_Lno_way : Cl l.prog w K mg base CX0 4 "_law_no_way" f12 _ ["_law_one", "_law_other", "_law_due"] (spLno_way K Pt) := ⟨ok_Lno_way T GT F12 B c_Lwhole c_way, PySem.W.mg_of X G a12, k12, b12⟩
  have c_Lgood : Cl l.prog w K mg base CX0 5 "_law_good" f13 _ ["_law_one", "_law_other"] (spLgood K Pt) := ⟨ok_Lgood T GT F13 B c_Lgap c_Lleads c_Lno_way c_Lwhole c_gap c_way, PySem.W.mg_of X G a13, k13, b13⟩
  have c_Lcell_at : Cl l.prog w K mg base CX0 1 "_law_cell_at" f14 _ ["_law_script", "_law_k"] (spLcell_at K) := ⟨ok_Lcell_at T GT F14 B, PySem.W.mg_of X G a14, k14, b14⟩
  have c_Lone_back : Cl l.prog w K mg base CX0 1 "_law_one_back" f15 _ ["_law_row"] (spLone_back K) := ⟨ok_Lone_back T GT F15 B, PySem.W.mg_of X G a15, k15, b15⟩
  have c_Lpulled : Cl l.prog w K mg base CX0 1 "_law_pulled" f16 _ ["_law_row", "_law_cells"] (spLpulled K) := ⟨ok_Lpulled T GT F16 B, PySem.W.mg_of X G a16, k16, b16⟩
  have c_Lpurse : Cl l.prog w K mg base CX0 1 "_law_purse" f17 _ ["_law_cell", "_law_small"] (spLpurse K) := ⟨ok_Lpurse T GT F17 B, PySem.W.mg_of X G a17, k17, b17⟩
  have c_Lpair : Cl l.prog w K mg base CX0 2 "_law_pair" f18 _ ["_law_script"] (spLpair K) := ⟨ok_Lpair T GT F18 B c_Lcell_at c_Lone_back c_Lpulled c_Lpurse, PySem.W.mg_of X G a18, k18, b18⟩
  exact ok_law T GT F19 B c_Lgood c_Lpair

end K07
open PySem PySem.W PyProof.Rows
set_option maxRecDepth 100000 in
set_option maxHeartbeats 0 in
theorem PySem.Challenge.cw_pursewise_k07_whole_a_way_or_a_gap_holds : PySem.Challenge.rw_pursewise_k07_whole_a_way_or_a_gap.Holds := by
  w_on; o_law; k_head; (case hw => w_witness2)
  k_fill
  refine LamX.walk_ofTs (l := PySem.Challenge.rw_pursewise_k07_whole_a_way_or_a_gap) (n := 63) (k := 6) (x := "_law_script") (CX := fun _ => L2.CX0) rfl (by decide) rfl ⟨rfl, by decide, by decide⟩ (fun w h Y => PySem.W.km_in_of Y) ?F (fun _ _ _ _ _ h => h)
  case F =>
    intro w mg fa h Y KX G hmg
    have hTP := PySem.W.km_tabs_of Y _ (List.mem_singleton.mpr rfl)
    refine' K07.law_at hTP ?nT ?CH KX (K07.all_mk KX G hmg ?a1 ?l1 ?c1 ?k1 ?a2 ?l2 ?c2 ?k2 ?a3 ?l3 ?c3 ?k3 ?a4 ?l4 ?c4 ?k4 ?a5 ?l5 ?c5 ?k5 ?a6 ?l6 ?c6 ?k6 ?a7 ?l7 ?c7 ?k7 ?a8 ?l8 ?c8 ?k8 ?a9 ?l9 ?c9 ?k9 ?a10 ?l10 ?c10 ?k10 ?a11 ?l11 ?c11 ?k11 ?a12 ?l12 ?c12 ?k12 ?a13 ?l13 ?c13 ?k13 ?a14 ?l14 ?c14 ?k14 ?a15 ?l15 ?c15 ?k15 ?a16 ?l16 ?c16 ?k16 ?a17 ?l17 ?c17 ?k17 ?a18 ?l18 ?c18 ?k18 ?a19 ?l19 ?c19 ?k19 ?z_ValueError ?z_bool ?z_int ?z_isinstance ?z_len ?z_list ?z_max ?z_min ?z_range ?z_sorted ?z_sum ?z_tuple ?ePurseError ?eNoGift ?eUnlike ?eGap ?eNoText ?kN ?bN ?tN ?q1PurseError ?q2PurseError ?q3PurseError ?q4PurseError ?q1NoGift ?q2NoGift ?q3NoGift ?q4NoGift ?q1Unlike ?q2Unlike ?q3Unlike ?q4Unlike ?q1NoText ?q2NoText ?q3NoText ?q4NoText ?q2Gap ?q4Gap ?ga ?gg ?hN ?gc ?gs ?gt ?mo ?kitValueError ?iG ?lI ?cI ?kI ?tI ?lG ?rG ?saG ?noG ?clG ?rdP ?gaP ?vVP)
    (case a1 => k_is)
    (case l1 => k_is)
    (case c1 => k_is)
    (case k1 => k_is)
    (case a2 => k_is)
    (case l2 => k_is)
    (case c2 => k_is)
    (case k2 => k_is)
    (case a3 => k_is)
    (case l3 => k_is)
    (case c3 => k_is)
    (case k3 => k_is)
    (case a4 => k_is)
    (case l4 => k_is)
    (case c4 => k_is)
    (case k4 => k_is)
    (case a5 => k_is)
    (case l5 => k_is)
    (case c5 => k_is)
    (case k5 => k_is)
    (case a6 => k_is)
    (case l6 => k_is)
    (case c6 => k_is)
    (case k6 => k_is)
    (case a7 => k_is)
    (case l7 => k_is)
    (case c7 => k_is)
    (case k7 => k_is)
    (case a8 => k_is)
    (case l8 => k_is)
    (case c8 => k_is)
    (case k8 => k_is)
    (case a9 => k_is)
    (case l9 => k_is)
    (case c9 => k_is)
    (case k9 => k_is)
    (case a10 => k_is)
    (case l10 => k_is)
    (case c10 => k_is)
    (case k10 => k_is)
    (case a11 => k_is)
    (case l11 => k_is)
    (case c11 => k_is)
    (case k11 => k_is)
    (case a12 => k_is)
    (case l12 => k_is)
    (case c12 => k_is)
    (case k12 => k_is)
    (case a13 => k_is)
    (case l13 => k_is)
    (case c13 => k_is)
    (case k13 => k_is)
    (case a14 => k_is)
    (case l14 => k_is)
    (case c14 => k_is)
    (case k14 => k_is)
    (case a15 => k_is)
    (case l15 => k_is)
    (case c15 => k_is)
    (case k15 => k_is)
    (case a16 => k_is)
    (case l16 => k_is)
    (case c16 => k_is)
    (case k16 => k_is)
    (case a17 => k_is)
    (case l17 => k_is)
    (case c17 => k_is)
    (case k17 => k_is)
    (case a18 => k_is)
    (case l18 => k_is)
    (case c18 => k_is)
    (case k18 => k_is)
    (case a19 => k_is)
    (case l19 => k_is)
    (case c19 => k_is)
    (case k19 => k_is)
    (case z_ValueError => k_is)
    (case z_bool => k_is)
    (case z_int => k_is)
    (case z_isinstance => k_is)
    (case z_len => k_is)
    (case z_list => k_is)
    (case z_max => k_is)
    (case z_min => k_is)
    (case z_range => k_is)
    (case z_sorted => k_is)
    (case z_sum => k_is)
    (case z_tuple => k_is)
    (case ePurseError => k_is)
    (case eNoGift => k_is)
    (case eUnlike => k_is)
    (case eGap => k_is)
    (case eNoText => k_is)
    (case kN => k_is)
    (case bN => k_is)
    (case tN => k_is)
    (case q1PurseError => k_is)
    (case q2PurseError => k_is)
    (case q3PurseError => k_is)
    (case q4PurseError => first | k_is | rfl)
    (case q1NoGift => k_is)
    (case q2NoGift => k_is)
    (case q3NoGift => k_is)
    (case q4NoGift => first | k_is | rfl)
    (case q1Unlike => k_is)
    (case q2Unlike => k_is)
    (case q3Unlike => k_is)
    (case q4Unlike => first | k_is | rfl)
    (case q1NoText => k_is)
    (case q2NoText => k_is)
    (case q3NoText => k_is)
    (case q4NoText => first | k_is | rfl)
    (case q2Gap => k_is)
    (case q4Gap => first | k_is | rfl)
    (case ga => k_is)
    (case gg => k_is)
    (case hN => k_is)
    (case gc => k_is)
    (case gs => first | k_is | rfl)
    (case gt => first | k_is | rfl)
    (case mo => k_is)
    (case kitValueError => first | k_is | rfl)
    (case iG => first | k_is | rfl)
    (case lI => first | k_is | rfl)
    (case cI => k_is)
    (case kI => k_is)
    (case tI => first | k_is | rfl)
    (case lG => first | k_is | rfl)
    (case rG => first | k_is | rfl | decide +kernel)
    (case saG => first | k_is | rfl)
    (case noG => first | k_is | rfl)
    (case clG => first | k_is | rfl | decide +kernel)
    (case rdP => first | k_is | rfl)
    (case gaP => first | k_is | rfl)
    (case vVP => first | k_is | rfl)
    (case nT => first | k_is | rfl)
    (case CH => first | k_is | rfl)

