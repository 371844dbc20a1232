import PyProof.Rows.All
import Wide.All
import OpenK.AllK
import Wide.FinOn
import HandS.ForMost
import HandS.ForExc
import HandS.Evl
import HandS.EndBits
import HandS.WideBits
import HandS.SortKw
import HandS.SortInts
import HandS.IsInst
import HandS.Conv
import HandS.Codes
import HandS.Style
import HandS.Zip
import PySem.Challenge.RW_pursewise_k04_level
set_option Elab.async false
set_option linter.all false
set_option maxRecDepth 100000
set_option maxHeartbeats 4000000
/-! Px: a small calculus of our own over HandS: what a reading does from a heap that may have grown (Kc), told by the smallest heap that matters. -/
namespace Px
open PySem PySem.Spec PyProof.Rows L2 Evl

/-! ### heaps -/
theorem Ex.updm {H H1 : Hp} {l : Addr} {o : HO} (e : Ex H H1) : Ex (upd H l o) (upd H1 l o) := fun a u h => by
  by_cases ha : a = l
  · subst ha
    rw [upd_same] at h ⊢
    exact h
  · rw [upd_ne ha] at h ⊢
    exact e a u h
theorem Ex.put {H H1 : Hp} {l : Addr} {o : HO} (e : Ex H H1) (h : H1 l = some o) : Ex (upd H l o) H1 := fun a u q => by
  by_cases ha : a = l
  · subst ha
    rw [upd_same] at q
    rw [h]
    exact q
  · rw [upd_ne ha] at q
    exact e a u q
theorem sq_up {K : PySem.W.Frag} {H : Hp} {a p : Addr} {xs : List V} {o : HO} (h : SqL K H a xs) (hp : H p = none) : SqL K (upd H p o) a xs := ex_l (Ex.new hp) h
/-- an object that stands, behind a new one at p -/
theorem at_up {H : Hp} {a p : Addr} {o u : HO} (h : H a = some u) (hp : H p = none) : upd H p o a = some u := by
  rw [upd_ne (ne_of_none h hp)]
  exact h
theorem none_of_up {H : Hp} {q p : Addr} {o : HO} (h : upd H p o q = none) : H q = none ∧ q ≠ p := by
  by_cases e : q = p
  · subst e
    rw [upd_same] at h
    cases h
  · rw [upd_ne e] at h
    exact ⟨h, e⟩

/-! ### a def of the module as its callers use it -/
structure Cl (P : Program) (w : World) (K : PySem.W.Frag) (mg : Str → Option Value) (base : Heap) (CX : CXT) (k : Nat) (x : Str) (f : Addr) (fd : FuncData) (ps : List Str) (sp : Sp) : Prop where
  ok : FnOk P w K mg base CX k f fd ps sp
  gl : mg x = some (.ref f)
  kp : PySem.W.keepIn K (.ref f) = true
  bd : Binds K fd ps []

/-! ### sizes of whole numbers: below 2 ^ n in size -/
def Bd (n : Nat) (i : Int) : Prop := i.natAbs < 2 ^ n
theorem Bd.mono {n m : Nat} {i : Int} (h : Bd n i) (k : n ≤ m) : Bd m i := Nat.lt_of_lt_of_le h (Nat.pow_le_pow_right (by decide) k)
theorem Bd.add {n m : Nat} {i j : Int} (h : Bd n i) (k : Bd m j) : Bd (max n m + 1) (i + j) := by
  have h1 : i.natAbs < 2 ^ max n m := h.mono (Nat.le_max_left _ _)
  have h2 : j.natAbs < 2 ^ max n m := k.mono (Nat.le_max_right _ _)
  unfold Bd
  rw [Nat.pow_succ]
  omega
theorem Bd.sub {n m : Nat} {i j : Int} (h : Bd n i) (k : Bd m j) : Bd (max n m + 1) (i - j) := by
  have h1 : i.natAbs < 2 ^ max n m := h.mono (Nat.le_max_left _ _)
  have h2 : j.natAbs < 2 ^ max n m := k.mono (Nat.le_max_right _ _)
  unfold Bd
  rw [Nat.pow_succ]
  omega
theorem Bd.mul {n m : Nat} {i j : Int} (h : Bd n i) (k : Bd m j) : Bd (n + m) (i * j) := by
  unfold Bd at *
  rw [Int.natAbs_mul, Nat.pow_add]
  exact Nat.mul_lt_mul'' h k
theorem Bd.mod {n : Nat} {i j : Int} (k : Bd n j) (h : 0 < j) : Bd n (i % j) := by
  have h1 := Int.emod_nonneg i (show j ≠ 0 by omega)
  have h2 := Int.emod_lt_of_pos i h
  unfold Bd at k ⊢
  omega
theorem Bd.div {n : Nat} {i j : Int} (h : Bd n i) : Bd n (i / j) := Nat.lt_of_le_of_lt (Int.natAbs_ediv_le_natAbs i j) h
theorem Bd.mulX {n m : Nat} {i j : Int} (h : Bd n i) (k : Bd m j) (hl : n + m ≤ 134217728) : CMulX i j := mulx_ok h k hl
theorem Bd.bits {n : Nat} {i : Int} (h : Builtin.Int.intBits i ≤ n) : Bd n i := by
  unfold Bd
  unfold Builtin.Int.intBits at h
  split at h
  · rename_i z
    have z2 : i = 0 := by simpa using z
    rw [z2]
    exact Nat.pow_pos (by decide)
  · have h2 : i.natAbs < 2 ^ (i.natAbs.log2 + 1) := Nat.lt_log2_self
    exact Nat.lt_of_lt_of_le h2 (Nat.pow_le_pow_right (by decide) h)
theorem Bd.le {n : Nat} {i j : Int} (h : i.natAbs ≤ j.natAbs) (k : Bd n j) : Bd n i := Nat.lt_of_le_of_lt h k
theorem bd_lit (i : Int) : Bd (i.natAbs.log2 + 1) i := Nat.lt_log2_self
theorem Bd.ite {n : Nat} {c : Prop} [Decidable c] {i j : Int} (h : Bd n i) (k : Bd n j) : Bd n (if c then i else j) := by
  split
  · exact h
  · exact k

/-! ### rules that name the written part K by itself (so that a comprehension's element can bear them) -/
section
variable {X : Cx} {K : PySem.W.Frag}
theorem ixl (h : X.K = K := by rfl) : IxR X (rIxL K) := h ▸ ix_list
theorem ixt (h : X.K = K := by rfl) : IxR X (rIxT K) := h ▸ ix_tup
theorem sll (h : X.K = K := by rfl) : SlR X (rSlL K) := h ▸ sl_list
theorem slt (h : X.K = K := by rfl) : SlR X (rSlT K) := h ▸ sl_tup
def rLn (K : PySem.W.Frag) : List V → Hp → VK → Prop := fun xs H Q => ∃ p ys, xs = [.ref p] ∧ (SqL K H p ys ∨ SqT K H p ys) ∧ Q (.int ys.length) H
theorem bLen (h : X.K = K := by rfl) : CallR X (.builtin "len") (rLn K) := h ▸ call_len_seq
def rLs (K : PySem.W.Frag) : List V → Hp → VK → Prop := fun xs H Q => ∃ p ys, xs = [.ref p] ∧ (SqL K H p ys ∨ SqT K H p ys) ∧ ∀ l, H l = none → Q (.ref l) (upd H l (.lst ys))
theorem bList (h : X.K = K := by rfl) : CallR X (.type "list") (rLs K) := h ▸ call_list_of
theorem bSum (hc : X.calm = true) (h : X.K = K := by rfl) : CallR X (.builtin "sum") (rSum K) := h ▸ cr_sum hc
theorem bMin (hc : X.calm = true) (h : X.K = K := by rfl) : CallR X (.builtin "min") (rMin K) := h ▸ cr_min hc
theorem bMax (hc : X.calm = true) (h : X.K = K := by rfl) : CallR X (.builtin "max") (rMax K) := h ▸ cr_max hc
theorem bIsi (h : X.K = K := by rfl) : CallR X (.builtin "isinstance") (rIsi K) := h ▸ call_isi
theorem bSrt (h : X.K = K := by rfl) : CallR X (.builtin "sorted") (rSortedI K) := h ▸ cr_sortedI
theorem bSrtR (h : X.K = K := by rfl) : CallRK X (.builtin "sorted") [Str.ofString "reverse"] (rSortedKw K true [.bl true]) := h ▸ cr_sortedRev
theorem oEqD (hu : X.A.units + 64 < cLine) (h : X.K = K := by rfl) : OpR X (compareOp .Eq) (rEqD K) := h ▸ op_eqD hu
theorem oNeD (hu : X.A.units + 64 < cLine) (h : X.K = K := by rfl) : OpR X (compareOp .NotEq) (rNeD K) := h ▸ op_neD hu
theorem piL {tg l : Expr} {tl : TE} (hl : PE X l tl) (h : X.K = K := by rfl) : PI X tg l (iList K tl) := h ▸ pi_list hl
theorem piT {tg l : Expr} {tl : TE} (hl : PE X l tl) (h : X.K = K := by rfl) : PI X tg l (iTup K tl) := h ▸ pi_tup hl
theorem piZ {e e2 : Expr} {ta : TA} {p pos tpos : Pos} {elts : List Expr} {kk : Nat} (hg : Gl X "zip") (hm : X.mg "zip" = none) (ha : PA X [e, e2] ta) (h : X.K = K := by rfl)
    (hs : starEach [e, e2] X.env = (false, eval e X.env) :: starEach [e2] X.env := by rfl) (hpl : (backTo pos (starEach [e2] X.env)).any (·.1) = false := by rfl) :
    PI X (.Tuple elts kk tpos) (.Call (.Name "zip" p) [e, e2] [] pos) (iZip K ta) := h ▸ pi_zip hg hm ha hs hpl
theorem peBm {o e : Expr} {es : List Expr} {to : TE} {t : TA} {name : Str} {apos cpos : Pos} {T id : String} {r : V → List V → Hp → VK → Prop} (pa : PlainAttrs T) (slot : Slot T name id) (hty : typeOf (.builtin id) = pure (.type "method_descriptor")) (hm : MtR X id r) (ho : PE X o to) (ha : PA X (e :: es) t) (h : X.K = K := by rfl)
    (hbase : attributeBase o name X.env (eval o X.env) = eval o X.env := by rfl) (hline : (apos.endLine == cpos.line) = true := by rfl)
    (hs : starEach (e :: es) X.env = (false, eval e X.env) :: starEach es X.env := by rfl)
    (hfew : ((((backTo cpos (starEach (e :: es) X.env)).all fun x => !x.1) && (backToKw cpos (keywordEach [] X.env)).all fun x => x.1.isSome) && decide (((e :: es).length + ([] : List Keyword).length + if ([] : List Keyword).isEmpty then 0 else 1) < 30)) = true := by rfl)
    (hpl : (backTo cpos (starEach es X.env)).any (·.1) = false := by rfl) : PE X (.Call (.Attribute o name apos) (e :: es) [] cpos) (tBM K T r to t) := h ▸ pe_bm pa slot hty hm ho ha hbase hfew hline hs hpl
theorem peBm0 {o : Expr} {to : TE} {name : Str} {apos cpos : Pos} {T id : String} {r : V → List V → Hp → VK → Prop} (pa : PlainAttrs T) (slot : Slot T name id) (hty : typeOf (.builtin id) = pure (.type "method_descriptor")) (hm : MtR X id r) (ho : PE X o to) (h : X.K = K := by rfl)
    (hbase : attributeBase o name X.env (eval o X.env) = eval o X.env := by rfl) (hline : (apos.endLine == cpos.line) = true := by rfl) : PE X (.Call (.Attribute o name apos) [] [] cpos) (tBM0 K T r to) := h ▸ pe_bm0 pa slot hty hm ho hbase hline
theorem pgT {es : List Expr} {k : Nat} {pos : Pos} {t : TGs} {n : Nat} (hc : X.calm = true) (hh : PGs X es t) (h : X.K = K := by rfl)
    (hn : (assignEach es X.env).length = n := by rfl) (hst : (assignEach es X.env).findIdx? (·.1) = none := by rfl) : PG X (.Tuple es k pos) (gTup K n t) := h ▸ pg_tup hc hh hn hst
end

/-! ### the calculus -/
def Kc {α : Type} (m : Hp → (α → Hp → Prop) → Prop) (H : Hp) (P : α → Hp → Prop) : Prop := ∀ H1, Ex H H1 → ∀ Q : α → Hp → Prop, (∀ v H2, (∃ Hx, Ex Hx H2 ∧ P v Hx) → Q v H2) → m H1 Q
theorem kc_pure {α : Type} {v : α} {H : Hp} {P : α → Hp → Prop} (h : P v H) : Kc (fun H Q => Q v H) H P := fun H1 e _ k => k v H1 ⟨H, e, h⟩
theorem kc_bind {α β : Type} {m : Hp → (α → Hp → Prop) → Prop} {f : α → Hp → (β → Hp → Prop) → Prop} {H : Hp} {P : β → Hp → Prop} (h : Kc m H fun v Hx => Kc (f v) Hx P) : Kc (fun H Q => m H fun v H1 => f v H1 Q) H P := fun H1 e Q k =>
  h H1 e _ fun v H2 ⟨_, ex, hf⟩ => hf H2 ex Q k
theorem Kc.mono {α : Type} {m : Hp → (α → Hp → Prop) → Prop} {H H' : Hp} {P : α → Hp → Prop} (e : Ex H H') (h : Kc m H P) : Kc m H' P := fun H1 a Q k => h H1 (e.trans a) Q k
theorem Kc.imp {α : Type} {m : Hp → (α → Hp → Prop) → Prop} {H : Hp} {P P' : α → Hp → Prop} (h : Kc m H P) (i : ∀ v Hx, P v Hx → P' v Hx) : Kc m H P' := fun H1 a Q k => h H1 a Q fun v H2 ⟨Hx, ex, p⟩ => k v H2 ⟨Hx, ex, i v Hx p⟩
abbrev EvK (te : TE) (σ : L2.St) (H : Hp) (P : V → Hp → Prop) : Prop := Kc (te σ) H P
abbrev EvAK (ta : TA) (σ : L2.St) (H : Hp) (P : List V → Hp → Prop) : Prop := Kc (ta σ) H P
abbrev EvTK (tt : TT) (σ : L2.St) (H : Hp) (P : Bool → Hp → Prop) : Prop := Kc (tt σ) H P
abbrev EvOK (to : TO) (σ : L2.St) (H : Hp) (P : Option Int → Hp → Prop) : Prop := Kc (to σ) H P
abbrev RK (r : R2) (x y : V) (H : Hp) (P : V → Hp → Prop) : Prop := Kc (r x y) H P
abbrev CK (r : List V → Hp → VK → Prop) (vs : List V) (H : Hp) (P : V → Hp → Prop) : Prop := Kc (r vs) H P
abbrev MK (r : V → List V → Hp → VK → Prop) (x : V) (vs : List V) (H : Hp) (P : V → Hp → Prop) : Prop := Kc (r x vs) H P
def SpK (sp : Sp) (vs : List V) (H : Hp) (P : V → Hp → Prop) : Prop := ∀ E : XK, Kc (fun H Q => sp vs H Q E) H P
def Go (t : TS) (D : Ends) (σ : L2.St) (H : Hp) : Prop := ∀ H1, Ex H H1 → t D σ H1
/-- what is wished of a value at a heap that may have grown -/
def KQ (Q : VK) (v : V) (Hx : Hp) : Prop := ∀ H1, Ex Hx H1 → Q v H1
theorem KQ.up {Q : VK} {v : V} {H H' : Hp} (h : KQ Q v H) (e : Ex H H') : KQ Q v H' := fun H1 a => h H1 (e.trans a)
section
variable {K : PySem.W.Frag} {σ : L2.St} {H H' : Hp} {ta tb tc te tx : TE} {t u : TT} {x y z v : V} {r r' : R2} {P : V → Hp → Prop} {D : Ends}

/-! ### expressions -/
theorem k_var {i : Nat} (h : σ[i]? = some (some v)) (hp : P v H) : EvK (tVar i) σ H P := fun H1 e _ k => ⟨v, h, k v H1 ⟨H, e, hp⟩⟩
theorem k_c (hp : P v H) : EvK (tC v) σ H P := kc_pure hp
theorem k_op (h : EvK ta σ H fun x Hx => EvK tb σ Hx fun y Hy => RK r x y Hy P) : EvK (tOp r ta tb) σ H P := kc_bind (f := fun x H1 Q => tb σ H1 fun y H2 => r x y H2 Q) (h.imp fun _ _ h2 => kc_bind h2)
theorem k_un {ru : V → Hp → VK → Prop} (h : EvK ta σ H fun x Hx => Kc (ru x) Hx P) : EvK (tUn ru ta) σ H P := kc_bind (f := fun x H1 Q => ru x H1 Q) h
theorem k_cb {rc : List V → Hp → VK → Prop} {tl : TA} (h : EvAK tl σ H fun vs Hx => CK rc vs Hx P) : EvK (tCB rc tl) σ H P := kc_bind (f := fun vs H1 Q => rc vs H1 Q) h
theorem k_ckw {rc : List V → List V → Hp → VK → Prop} {tl tk : TA} (h : EvAK tl σ H fun vs Hx => EvAK tk σ Hx fun zs Hz => Kc (rc vs zs) Hz P) : EvK (tCKw rc tl tk) σ H P := kc_bind (f := fun vs H1 Q => tk σ H1 fun zs H2 => rc vs zs H2 Q) (h.imp fun _ _ h2 => kc_bind h2)
theorem k_call {sp : Sp} {dvs : List V} {E : XK} {tl : TA} (h : EvAK tl σ H fun vs Hx => SpK sp (vs ++ dvs) Hx P) : EvK (tCall sp dvs E tl) σ H P := kc_bind (f := fun vs H1 Q => sp (vs ++ dvs) H1 Q E) (h.imp fun _ _ h2 => h2 E)
theorem k_nil {PA : List V → Hp → Prop} (h : PA [] H) : EvAK tNil σ H PA := kc_pure h
theorem k_cons {tr : TA} {PA : List V → Hp → Prop} (h : EvK ta σ H fun x Hx => EvAK tr σ Hx fun vs Hy => PA (x :: vs) Hy) : EvAK (tCons ta tr) σ H PA :=
  kc_bind (f := fun x H1 Q => tr σ H1 fun xs H2 => Q (x :: xs) H2) (h.imp fun x _ h2 => kc_bind (f := fun xs H2 Q => Q (x :: xs) H2) (h2.imp fun _ _ h3 => kc_pure h3))
theorem k_tup {tl : TA} (h : EvAK tl σ H fun vs Hx => vs.length ≤ 100000 ∧ ∀ p, Hx p = none → P (.ref p) (upd Hx p (.tup vs))) : EvK (tTup tl) σ H P :=
  fun H1 e Q k => h H1 e _ fun vs H2 ⟨Hx, ex, hl, hp⟩ => ⟨sz_of hl, fun p np => k _ _ ⟨_, Ex.updm ex, hp p (fresh_back ex np)⟩⟩
theorem k_lst {tl : TA} (h : EvAK tl σ H fun vs Hx => vs.length ≤ 100000 ∧ ∀ p, Hx p = none → P (.ref p) (upd Hx p (.lst vs))) : EvK (tLst tl) σ H P :=
  fun H1 e Q k => h H1 e _ fun vs H2 ⟨Hx, ex, hl, hp⟩ => ⟨sz_of hl, fun p np => k _ _ ⟨_, Ex.updm ex, hp p (fresh_back ex np)⟩⟩
theorem k_chain (h : EvK ta σ H fun x Hx => EvK tb σ Hx fun y Hy => RK r x y Hy fun z Hz => ∃ b, z = .bl b ∧ (b = true → EvK tc σ Hz fun w Hw => RK r' y w Hw P) ∧ (b = false → P (.bl false) Hz)) : EvK (tChain r r' ta tb tc) σ H P :=
  fun H1 e Q k => h H1 e _ fun x H2 ⟨Hx, ex, h2⟩ => h2 H2 ex _ fun y H3 ⟨Hy, ey, h3⟩ => h3 H3 ey _ fun z H4 ⟨Hz, ez, b, eb, ht, hf⟩ => ⟨b, eb, by
    cases b with
    | true =>
      rw [if_pos rfl]
      exact ht rfl H4 ez _ fun w H5 ⟨Hw, ew, h5⟩ => h5 H5 ew Q k
    | false =>
      rw [if_neg Bool.false_ne_true]
      exact k _ _ ⟨Hz, ez, hf rfl⟩⟩
theorem k_andV (h : EvK ta σ H fun x Hx => ∃ b, x = .bl b ∧ (b = true → EvK tb σ Hx P) ∧ (b = false → P (.bl false) Hx)) : EvK (tAndV ta tb) σ H P :=
  fun H1 e Q k => h H1 e _ fun x H2 ⟨Hx, ex, b, eb, ht, hf⟩ => ⟨b, eb, by
    cases b with
    | true =>
      rw [if_pos rfl]
      exact ht rfl H2 ex Q k
    | false =>
      rw [if_neg Bool.false_ne_true]
      exact k _ _ ⟨Hx, ex, hf rfl⟩⟩
theorem k_orV (h : EvK ta σ H fun x Hx => ∃ b, x = .bl b ∧ (b = true → P (.bl true) Hx) ∧ (b = false → EvK tb σ Hx P)) : EvK (tOrV ta tb) σ H P :=
  fun H1 e Q k => h H1 e _ fun x H2 ⟨Hx, ex, b, eb, ht, hf⟩ => ⟨b, eb, by
    cases b with
    | true =>
      rw [if_pos rfl]
      exact k _ _ ⟨Hx, ex, ht rfl⟩
    | false =>
      rw [if_neg Bool.false_ne_true]
      exact hf rfl H2 ex Q k⟩
theorem k_notV (h : EvK ta σ H fun x Hx => ∃ b, x = .bl b ∧ P (.bl (!b)) Hx) : EvK (tNotV ta) σ H P :=
  fun H1 e Q k => h H1 e _ fun x H2 ⟨Hx, ex, b, eb, hp⟩ => ⟨b, eb, k _ _ ⟨Hx, ex, hp⟩⟩
theorem k_sl {rs : V → Option Int → Option Int → Hp → VK → Prop} {tl th : TO} (h : EvK te σ H fun x Hx => EvOK tl σ Hx fun l Hl => EvOK th σ Hl fun u Hu => Kc (rs x l u) Hu P) : EvK (tSl rs te tl th) σ H P :=
  fun H1 e Q k => h H1 e _ fun x H2 ⟨_, ex, h2⟩ => h2 H2 ex _ fun l H3 ⟨_, el, h3⟩ => h3 H3 el _ fun u H4 ⟨_, eu, h4⟩ => h4 H4 eu Q k
theorem k_nopart {PO : Option Int → Hp → Prop} (h : PO none H) : EvOK tNoPart σ H PO := kc_pure h
theorem k_part {PO : Option Int → Hp → Prop} (h : EvK te σ H fun x Hx => ∃ i, x = .int i ∧ PO (some i) Hx) : EvOK (tPart te) σ H PO :=
  fun H1 e Q k => h H1 e _ fun x H2 ⟨Hx, ex, i, ei, hp⟩ => ⟨i, ei, k _ _ ⟨Hx, ex, hp⟩⟩
theorem k_bm {T : String} {rm : V → List V → Hp → VK → Prop} {tl : TA} (h : EvK ta σ H fun x Hx => (∀ H1, Ex Hx H1 → tyV K T x H1) ∧ EvAK tl σ Hx fun vs Hy => MK rm x vs Hy P) : EvK (tBM K T rm ta tl) σ H P :=
  fun H1 e Q k => h H1 e _ fun x H2 ⟨Hx, ex, hty, h2⟩ => ⟨hty H2 ex, h2 H2 ex _ fun vs H3 ⟨Hy, ey, h3⟩ => h3 H3 ey Q k⟩
theorem k_bm0 {T : String} {rm : V → List V → Hp → VK → Prop} (h : EvK ta σ H fun x Hx => (∀ H1, Ex Hx H1 → tyV K T x H1) ∧ MK rm x [] Hx P) : EvK (tBM0 K T rm ta) σ H P :=
  fun H1 e Q k => h H1 e _ fun x H2 ⟨Hx, ex, hty, h2⟩ => ⟨hty H2 ex, h2 H2 ex Q k⟩
theorem tyl {a : Addr} {xs : List V} (h : SqL K H a xs) : ∀ H1, Ex H H1 → tyV K "list" (.ref a) H1 := fun H1 e => Or.inl ⟨rfl, _, ex_l e h⟩

/-! ### tests -/
theorem kt_test {PB : Bool → Hp → Prop} (h : EvK te σ H fun x Hx => ∃ b, x = .bl b ∧ PB b Hx) : EvTK (tTest te) σ H PB := fun H1 e Q k => h H1 e _ fun x H2 ⟨Hx, ex, b, eb, hp⟩ => ⟨b, eb, k _ _ ⟨Hx, ex, hp⟩⟩
theorem kt_B {PB : Bool → Hp → Prop} (h : EvK te σ H fun x Hx => ∃ b, x = .bl b ∧ PB b Hx) : EvTK (tB te) σ H PB := fun H1 e Q k => h H1 e _ fun x H2 ⟨Hx, ex, b, eb, hp⟩ => ⟨b, eb, k _ _ ⟨Hx, ex, hp⟩⟩
theorem kt_yes {PB : Bool → Hp → Prop} (h : PB true H) : EvTK tYes σ H PB := kc_pure h
theorem kt_and {PB : Bool → Hp → Prop} (h : EvTK t σ H fun b Hx => (b = true → EvTK u σ Hx PB) ∧ (b = false → PB false Hx)) : EvTK (tAnd t u) σ H PB := fun H1 e Q k => h H1 e _ fun b H2 ⟨Hx, ex, ht, hf⟩ => by
  cases b with
  | true =>
    rw [if_pos rfl]
    exact ht rfl H2 ex Q k
  | false =>
    rw [if_neg Bool.false_ne_true]
    exact k _ _ ⟨Hx, ex, hf rfl⟩
theorem kt_or {PB : Bool → Hp → Prop} (h : EvTK t σ H fun b Hx => (b = true → PB true Hx) ∧ (b = false → EvTK u σ Hx PB)) : EvTK (tOr t u) σ H PB := fun H1 e Q k => h H1 e _ fun b H2 ⟨Hx, ex, ht, hf⟩ => by
  cases b with
  | true =>
    rw [if_pos rfl]
    exact k _ _ ⟨Hx, ex, ht rfl⟩
  | false =>
    rw [if_neg Bool.false_ne_true]
    exact hf rfl H2 ex Q k
theorem kt_not {PB : Bool → Hp → Prop} (h : EvTK t σ H fun b Hx => PB (!b) Hx) : EvTK (tNot t) σ H PB := fun H1 e Q k => h H1 e _ fun b H2 ⟨Hx, ex, hp⟩ => k _ _ ⟨Hx, ex, hp⟩

/-! ### operations on values -/
theorem r_I0 {g : Int → Int → V} {i j : Int} (h : P (g i j) H) : RK (rI0 g) (.int i) (.int j) H P := fun H1 e Q k => ⟨i, j, rfl, rfl, k _ _ ⟨H, e, h⟩⟩
theorem r_I {C : Int → Int → Prop} {g : Int → Int → V} {i j : Int} (h : C i j ∧ P (g i j) H) : RK (rI C g) (.int i) (.int j) H P := fun H1 e Q k => ⟨i, j, rfl, rfl, h.1, k _ _ ⟨H, e, h.2⟩⟩
theorem r_I' {C : Int → Int → Prop} {g : Int → Int → V} {i j : Int} (h : P (g i j) H) (hc : C i j) : RK (rI C g) (.int i) (.int j) H P := r_I ⟨hc, h⟩
theorem r_eq (h : scal x y = true ∧ P (.bl (decide (x = y))) H) : RK rEq x y H P := fun H1 e Q k => ⟨h.1, k _ _ ⟨H, e, h.2⟩⟩
theorem r_ne (h : scal x y = true ∧ P (.bl (!decide (x = y))) H) : RK rNe x y H P := fun H1 e Q k => ⟨h.1, k _ _ ⟨H, e, h.2⟩⟩
theorem r_eqI {i j : Int} (h : P (.bl (decide (i = j))) H) : RK rEq (.int i) (.int j) H P := r_eq ⟨rfl, by
  have e : decide (V.int i = V.int j) = decide (i = j) := by
    by_cases c : i = j
    · subst c
      rw [decide_eq_true rfl, decide_eq_true rfl]
    · rw [decide_eq_false c, decide_eq_false fun z => c (V.int.inj z)]
  rw [e]
  exact h⟩
theorem r_neI {i j : Int} (h : P (.bl (!decide (i = j))) H) : RK rNe (.int i) (.int j) H P := r_ne ⟨rfl, by
  have e : decide (V.int i = V.int j) = decide (i = j) := by
    by_cases c : i = j
    · subst c
      rw [decide_eq_true rfl, decide_eq_true rfl]
    · rw [decide_eq_false c, decide_eq_false fun z => c (V.int.inj z)]
  rw [e]
  exact h⟩
theorem r_neg {i : Int} (h : P (.int (-i)) H) : Kc (rU (fun i => V.int (-i)) (.int i)) H P := fun H1 e Q k => ⟨i, rfl, k _ _ ⟨H, e, h⟩⟩
theorem r_ixL {p : Addr} {xs : List V} {i : Int} (h : SqL K H p xs) (ha : atI xs i = some v) (hp : P v H) : RK (rIxL K) (.ref p) (.int i) H P := fun H1 e Q k => ⟨p, xs, i, v, rfl, rfl, ex_l e h, ha, k _ _ ⟨H, e, hp⟩⟩
theorem r_ixT {p : Addr} {xs : List V} {i : Int} (h : SqT K H p xs) (ha : atI xs i = some v) (hp : P v H) : RK (rIxT K) (.ref p) (.int i) H P := fun H1 e Q k => ⟨p, xs, i, v, rfl, rfl, ex_t e h, ha, k _ _ ⟨H, e, hp⟩⟩
theorem r_slL {p : Addr} {xs : List V} {lo hi : Option Int} (h : SqL K H p xs) (hp : ∀ q, H q = none → P (.ref q) (upd H q (.lst (cutV xs lo hi)))) : Kc (rSlL K (.ref p) lo hi) H P := fun H1 e Q k => ⟨p, xs, rfl, ex_l e h, fun q nq => k _ _ ⟨_, Ex.updm e, hp q (fresh_back e nq)⟩⟩
theorem r_isN (h : P (.bl (decide (x = .non))) H) : RK (fun x y H Q => y = .non ∧ Q (.bl (decide (x = .non))) H) x .non H P := fun H1 e Q k => ⟨rfl, k _ _ ⟨H, e, h⟩⟩
theorem r_notN (h : P (.bl (!decide (x = .non))) H) : RK (fun x y H Q => y = .non ∧ Q (.bl (!decide (x = .non))) H) x .non H P := fun H1 e Q k => ⟨rfl, k _ _ ⟨H, e, h⟩⟩
theorem r_isB {a b : Bool} (h : P (.bl (decide (a = b))) H) : RK rIsB (.bl a) (.bl b) H P := fun H1 e Q k => ⟨a, b, rfl, rfl, k _ _ ⟨H, e, h⟩⟩
mutual
theorem dp_ex {H H1 : Hp} (e : Ex H H1) : ∀ {v : V} {d : PyData}, Dp K H v d → Dp K H1 v d
  | _, _, .non => .non
  | _, _, .bl b => .bl b
  | _, _, .int i => .int i
  | _, _, .str x => .str x
  | _, _, .lst h k => .lst (ex_l e h) (dpa_ex e k)
  | _, _, .tup h k => .tup (ex_t e h) (dpa_ex e k)
theorem dpa_ex {H H1 : Hp} (e : Ex H H1) : ∀ {vs : List V} {ds : List PyData}, DpAll K H vs ds → DpAll K H1 vs ds
  | _, _, .nil => .nil
  | _, _, .cons h k => .cons (dp_ex e h) (dpa_ex e k)
end
theorem r_eqD {d d' : PyData} (h1 : Dp K H x d) (h2 : Dp K H y d') (s1 : SeqAt.shaped d = true) (s2 : SeqAt.shaped d' = true) (hp : P (.bl (PyData.eqv d d')) H) : RK (rEqD K) x y H P := fun H1 e Q k => ⟨d, d', dp_ex e h1, dp_ex e h2, s1, s2, k _ _ ⟨H, e, hp⟩⟩
theorem r_neD {d d' : PyData} (h1 : Dp K H x d) (h2 : Dp K H y d') (s1 : SeqAt.shaped d = true) (s2 : SeqAt.shaped d' = true) (hp : P (.bl (!PyData.eqv d d')) H) : RK (rNeD K) x y H P := fun H1 e Q k => ⟨d, d', dp_ex e h1, dp_ex e h2, s1, s2, k _ _ ⟨H, e, hp⟩⟩
theorem eqv_self {d : PyData} (h : SeqAt.shaped d = true) : PyData.eqv d d = true := SeqAt.eqv_refl d (SeqAt.canLay_of_shaped h)
/-- both the same data -/
theorem r_eqS {d : PyData} (h1 : Dp K H x d) (h2 : Dp K H y d) (s1 : SeqAt.shaped d = true) (hp : P (.bl true) H) : RK (rEqD K) x y H P := r_eqD h1 h2 s1 s1 (by rw [eqv_self s1]; exact hp)
theorem r_neS {d : PyData} (h1 : Dp K H x d) (h2 : Dp K H y d) (s1 : SeqAt.shaped d = true) (hp : P (.bl false) H) : RK (rNeD K) x y H P := r_neD h1 h2 s1 s1 (by rw [eqv_self s1]; exact hp)
theorem dpa_ints : ∀ ns : List Int, DpAll K H (ns.map V.int) (ns.map PyData.int)
  | [] => .nil
  | n :: ns => .cons (.int n) (dpa_ints ns)
theorem dp_ints {a : Addr} {ns : List Int} (h : SqL K H a (ns.map V.int)) : Dp K H (.ref a) (.list (ns.map PyData.int)) := .lst h (dpa_ints ns)
theorem lay_ints : ∀ ns : List Int, PyData.canLayAll0 (ns.map PyData.int) = true
  | [] => rfl
  | n :: ns => by
    show (PyData.canLay0 (.int n) && PyData.canLayAll0 (ns.map PyData.int)) = true
    rw [lay_ints ns]
    rfl
theorem dep_ints : ∀ ns : List Int, PyData.depthAll (ns.map PyData.int) = 0
  | [] => rfl
  | n :: ns => by
    show max (PyData.depth (.int n)) (PyData.depthAll (ns.map PyData.int)) = 0
    rw [dep_ints ns]
    rfl
theorem sh_ints (ns : List Int) : SeqAt.shaped (.list (ns.map PyData.int)) = true := by
  show (PyData.canLayAll0 (ns.map PyData.int) && decide (PyData.depthAll (ns.map PyData.int) + 1 ≤ 64)) = true
  rw [lay_ints, dep_ints]
  rfl
/-- two lists of the same whole numbers -/
theorem r_eqI2 {a b : Addr} {ns : List Int} (h1 : SqL K H a (ns.map V.int)) (h2 : SqL K H b (ns.map V.int)) (hp : P (.bl true) H) : RK (rEqD K) (.ref a) (.ref b) H P := r_eqS (dp_ints h1) (dp_ints h2) (sh_ints ns) hp
theorem r_neI2 {a b : Addr} {ns : List Int} (h1 : SqL K H a (ns.map V.int)) (h2 : SqL K H b (ns.map V.int)) (hp : P (.bl false) H) : RK (rNeD K) (.ref a) (.ref b) H P := r_neS (dp_ints h1) (dp_ints h2) (sh_ints ns) hp
theorem r_cat {l b : Addr} {xs zs : List V} (h1 : H l = some (.lst xs)) (h2 : H b = some (.lst zs)) (hz : xs.length + zs.length ≤ 100000) (hp : ∀ p, H p = none → P (.ref p) (upd H p (.lst (xs ++ zs)))) : RK rCat (.ref l) (.ref b) H P := fun H1 e Q k =>
  ⟨l, b, xs, zs, rfl, rfl, e _ _ h1, e _ _ h2, sz_of hz, fun p np => k _ _ ⟨_, Ex.updm e, hp p (fresh_back e np)⟩⟩

theorem cut_from (xs : List V) : cutV xs (some 1) none = xs.drop 1 := by
  unfold cutV
  rw [show HT.sIx xs.length 0 (some 1) = min 1 xs.length from HT.sIx_nat xs.length 0 1, HT.sIx_none]
  cases xs with
  | nil => rfl
  | cons x r =>
    rw [show min 1 (x :: r).length = 1 by
      rw [List.length_cons]
      omega]
    show (List.take ((x :: r).length - 1) r) = r
    rw [List.length_cons, Nat.add_sub_cancel]
    exact List.take_length

theorem cut_to {xs : List V} {k : Nat} (h : k ≤ xs.length) : cutV xs none (some (k : Int)) = xs.take k := by
  unfold cutV
  rw [show HT.sIx xs.length xs.length (some (k : Int)) = min k xs.length from HT.sIx_nat xs.length xs.length k, HT.sIx_none, Nat.min_eq_left h, List.drop_zero, Nat.sub_zero]

/-! ### calls of built-ins -/
theorem c_len {p : Addr} {xs : List V} (h : SqL K H p xs) (hp : P (.int xs.length) H) : CK (rLn K) [.ref p] H P := fun H1 e Q k => ⟨p, xs, rfl, .inl (ex_l e h), k _ _ ⟨H, e, hp⟩⟩
theorem c_lenT {p : Addr} {xs : List V} (h : SqT K H p xs) (hp : P (.int xs.length) H) : CK (rLn K) [.ref p] H P := fun H1 e Q k => ⟨p, xs, rfl, .inr (ex_t e h), k _ _ ⟨H, e, hp⟩⟩
theorem c_list {p : Addr} {xs : List V} (h : SqL K H p xs) (hp : ∀ q, H q = none → P (.ref q) (upd H q (.lst xs))) : CK (rLs K) [.ref p] H P := fun H1 e Q k => ⟨p, xs, rfl, .inl (ex_l e h), fun q nq => k _ _ ⟨_, Ex.updm e, hp q (fresh_back e nq)⟩⟩
theorem c_sum {p : Addr} {ns : List Int} (h : SqL K H p (ns.map V.int)) (hp : P (.int ns.sum) H) : CK (rSum K) [.ref p] H P := fun H1 e Q k => ⟨p, ns, rfl, ex_l e h, k _ _ ⟨H, e, hp⟩⟩
theorem c_min {p : Addr} {ns : List Int} (h : SqL K H p (ns.map V.int)) (h0 : 0 < ns.length) (hp : ∀ m, m ∈ ns → (∀ y, y ∈ ns → m ≤ y) → P (.int m) H) : CK (rMin K) [.ref p] H P := fun H1 e Q k => ⟨p, ns, rfl, ex_l e h, h0, fun m hm hl => k _ _ ⟨H, e, hp m hm hl⟩⟩
theorem c_max {p : Addr} {ns : List Int} (h : SqL K H p (ns.map V.int)) (h0 : 0 < ns.length) (hp : ∀ m, m ∈ ns → (∀ y, y ∈ ns → y ≤ m) → P (.int m) H) : CK (rMax K) [.ref p] H P := fun H1 e Q k => ⟨p, ns, rfl, ex_l e h, h0, fun m hm hl => k _ _ ⟨H, e, hp m hm hl⟩⟩
theorem c_max2 {i j : Int} (hp : P (.int (if j > i then j else i)) H) : CK (fun xs H Q => ∃ i j, xs = [.int i, .int j] ∧ Q (.int (if j > i then j else i)) H) [.int i, .int j] H P := fun H1 e Q k => ⟨i, j, rfl, k _ _ ⟨H, e, hp⟩⟩
theorem c_min2 {i j : Int} (hp : P (.int (if j < i then j else i)) H) : CK (fun xs H Q => ∃ i j, xs = [.int i, .int j] ∧ Q (.int (if j < i then j else i)) H) [.int i, .int j] H P := fun H1 e Q k => ⟨i, j, rfl, k _ _ ⟨H, e, hp⟩⟩
theorem c_intB {b : Bool} (hp : P (.int (if b then 1 else 0)) H) : CK (fun xs H Q => (∃ i, xs = [.int i] ∧ Q (.int i) H) ∨ ∃ k, xs = [.bl k] ∧ Q (.int (if k then 1 else 0)) H) [.bl b] H P := fun H1 e Q k => .inr ⟨b, rfl, k _ _ ⟨H, e, hp⟩⟩
theorem tyx_ex {H1 : Hp} (e : Ex H H1) {t : Value} (h : TyX K H x t) : TyX K H1 x t := by
  cases h with
  | base b =>
    refine .base ?_
    cases b with
    | non => exact .non
    | bl y => exact .bl y
    | int i => exact .int i
    | str y => exact .str y
    | flt y => exact .flt y
    | lst ea => exact .lst (e _ _ ea)
    | frz ea => exact .frz (e _ _ ea)
    | tup ea => exact .tup (e _ _ ea)
    | dK ea => exact .dK (e _ _ ea)
    | dT ea => exact .dT (e _ _ ea)
    | ins ea cl ha hn htk hm => exact .ins (e _ _ ea) cl ha hn htk hm
  | byt y => exact .byt y
  | set ea => exact .set (e _ _ ea)
  | kList ea c => exact .kList ea c
  | kTuple ea c => exact .kTuple ea c
  | kDict ea c => exact .kDict ea c
  | fTuple ea => exact .fTuple (e _ _ ea)
  | fDict ea => exact .fDict (e _ _ ea)
theorem c_isi {n : String} {a : String} {b : Bool} (ty : TyX K H x (.type a)) (hk : kitB a n = some b) (hp : P (.bl b) H) : CK (rIsi K) [x, .ty n] H P := fun H1 e Q k => ⟨x, .ty n, .type a, .type n, b, rfl, .ty n, tyx_ex e ty, kit_ty hk, k _ _ ⟨H, e, hp⟩⟩
theorem ty_lst {a : Addr} {xs : List V} (h : H a = some (.lst xs)) : TyX K H (.ref a) (.type "list") := .base (.lst h)
theorem ty_tup {a : Addr} {xs : List V} (h : H a = some (.tup xs)) : TyX K H (.ref a) (.type "tuple") := .base (.tup h)
theorem c_list_list {a : Addr} {xs : List V} (h : H a = some (.lst xs)) (hp : P (.bl true) H) : CK (rIsi K) [.ref a, .ty "list"] H P := c_isi (ty_lst h) (by decide +kernel) hp
theorem c_tup_tup {a : Addr} {xs : List V} (h : H a = some (.tup xs)) (hp : P (.bl true) H) : CK (rIsi K) [.ref a, .ty "tuple"] H P := c_isi (ty_tup h) (by decide +kernel) hp
theorem c_int_int {i : Int} (hp : P (.bl true) H) : CK (rIsi K) [.int i, .ty "int"] H P := c_isi (.base (.int i)) (by decide +kernel) hp
theorem c_int_bool {i : Int} (hp : P (.bl false) H) : CK (rIsi K) [.int i, .ty "bool"] H P := c_isi (.base (.int i)) (by decide +kernel) hp
theorem c_bl_bool {i : Bool} (hp : P (.bl true) H) : CK (rIsi K) [.bl i, .ty "bool"] H P := c_isi (.base (.bl i)) (by decide +kernel) hp
theorem c_str_str {i : Str} (hp : P (.bl true) H) : CK (rIsi K) [.str i, .ty "str"] H P := c_isi (.base (.str i)) (by decide +kernel) hp
theorem c_non_int (hp : P (.bl false) H) : CK (rIsi K) [.non, .ty "int"] H P := c_isi (.base .non) (by decide +kernel) hp

/-! ### methods of lists -/
theorem m_append {l : Addr} {xs : List V} (h : H l = some (.lst xs)) (hz : xs.length < 100000) (hp : P .non (upd H l (.lst (xs ++ [y])))) : MK rAppend (.ref l) [y] H P := fun H1 e Q k => ⟨l, xs, y, rfl, rfl, e _ _ h, sz_lt hz, k _ _ ⟨_, Ex.updm e, hp⟩⟩
theorem m_reverse {l : Addr} {xs : List V} (h : H l = some (.lst xs)) (hp : P .non (upd H l (.lst xs.reverse))) : MK rReverse (.ref l) [] H P := fun H1 e Q k => ⟨l, xs, rfl, rfl, e _ _ h, k _ _ ⟨_, Ex.updm e, hp⟩⟩
theorem m_clear {l : Addr} {xs : List V} (h : H l = some (.lst xs)) (hp : P .non (upd H l (.lst []))) : MK rClear (.ref l) [] H P := fun H1 e Q k => ⟨l, xs, rfl, rfl, e _ _ h, k _ _ ⟨_, Ex.updm e, hp⟩⟩

/-! ### statements -/
theorem Go.here {s : TS} (h : Go s D σ H) : s D σ H := h H (Ex.refl H)
theorem Go.mono {s : TS} (h : Go s D σ H) (e : Ex H H') : Go s D σ H' := fun H1 a => h H1 (e.trans a)
variable {s s2 w : TS}
/-- a statement ahead of w -/
theorem gs_asg {i : Nat} (h : EvK te σ H fun v Hx => Go w D (σ.set i (some v)) Hx) : Go (tSeq (tAsg te (gName i)) w) D σ H := fun H1 e => h H1 e _ fun v H2 ⟨_, ex, g⟩ => g H2 ex
theorem gs_drop (h : EvK te σ H fun _ Hx => Go w D σ Hx) : Go (tSeq (tDrop te) w) D σ H := fun H1 e => h H1 e _ fun v H2 ⟨_, ex, g⟩ => g H2 ex
theorem gs_if (h : EvTK t σ H fun b Hx => (b = true → Go s { D with nx := w D } σ Hx) ∧ (b = false → Go s2 { D with nx := w D } σ Hx)) : Go (tSeq (tIfS t s s2) w) D σ H := fun H1 e => h H1 e _ fun b H2 ⟨Hx, ex, ht, hf⟩ => by
  cases b with
  | true =>
    rw [if_pos rfl]
    exact ht rfl H2 ex
  | false =>
    rw [if_neg Bool.false_ne_true]
    exact hf rfl H2 ex
theorem gs_when (h : EvTK t σ H fun b Hx => (b = true → Go s { D with nx := w D } σ Hx) ∧ (b = false → Go w D σ Hx)) : Go (tSeq (tIfS t s tNext) w) D σ H := gs_if h
/-- the last statement of a block -/
theorem g1_asg {i : Nat} (h : EvK te σ H fun v Hx => ∀ H1, Ex Hx H1 → D.nx (σ.set i (some v)) H1) : Go (tAsg te (gName i)) D σ H := fun H1 e => h H1 e _ fun v H2 ⟨_, ex, g⟩ => g H2 ex
theorem g1_drop (h : EvK te σ H fun _ Hx => ∀ H1, Ex Hx H1 → D.nx σ H1) : Go (tDrop te) D σ H := fun H1 e => h H1 e _ fun v H2 ⟨_, ex, g⟩ => g H2 ex
theorem g1_ret (h : EvK te σ H (KQ D.rt)) : Go (tRet te) D σ H := fun H1 e => h H1 e _ fun v H2 ⟨_, ex, g⟩ => g H2 ex
theorem g1_if (h : EvTK t σ H fun b Hx => (b = true → Go s D σ Hx) ∧ (b = false → Go s2 D σ Hx)) : Go (tIfS t s s2) D σ H := fun H1 e => h H1 e _ fun b H2 ⟨Hx, ex, ht, hf⟩ => by
  cases b with
  | true =>
    rw [if_pos rfl]
    exact ht rfl H2 ex
  | false =>
    rw [if_neg Bool.false_ne_true]
    exact hf rfl H2 ex
theorem g1_next (h : ∀ H1, Ex H H1 → D.nx σ H1) : Go tNext D σ H := h
/-- the last statement of a block within a block: then w -/
theorem g2_asg {i : Nat} (h : EvK te σ H fun v Hx => Go w D (σ.set i (some v)) Hx) : Go (tAsg te (gName i)) { D with nx := w D } σ H := g1_asg h
theorem g2_drop (h : EvK te σ H fun _ Hx => Go w D σ Hx) : Go (tDrop te) { D with nx := w D } σ H := g1_drop h
theorem g2_next (h : Go w D σ H) : Go tNext { D with nx := w D } σ H := h
/-- what stands behind, shown once -/
theorem gs_cut (R : Go w D σ H) (h : Go w D σ H → Go (tSeq s w) D σ H) : Go (tSeq s w) D σ H := h R
/-- a, b = b, a -/
theorem gs_par {i j : Nat} {tl : TA} (h : EvAK tl σ H fun vs Hx => ∃ v z, vs = [v, z] ∧ Go w D ((σ.set i (some v)).set j (some z)) Hx) : Go (tSeq (tPar i j tl) w) D σ H := fun H1 e => h H1 e _ fun vs H2 ⟨_, ex, v, z, ev, g⟩ => ⟨v, z, ev, g H2 ex⟩
theorem g1_par {i j : Nat} {tl : TA} (h : EvAK tl σ H fun vs Hx => ∃ v z, vs = [v, z] ∧ ∀ H1, Ex Hx H1 → D.nx ((σ.set i (some v)).set j (some z)) H1) : Go (tPar i j tl) D σ H := fun H1 e => h H1 e _ fun vs H2 ⟨_, ex, v, z, ev, g⟩ => ⟨v, z, ev, g H2 ex⟩
theorem g2_par {i j : Nat} {tl : TA} (h : EvAK tl σ H fun vs Hx => ∃ v z, vs = [v, z] ∧ Go w D ((σ.set i (some v)).set j (some z)) Hx) : Go (tPar i j tl) { D with nx := w D } σ H := g1_par h
/-- o[i] = e -/
theorem gs_set (h : EvK te σ H fun v Hv => EvK ta σ Hv fun o Ho => EvK tb σ Ho fun i Hi => ∃ l xs n j, o = .ref l ∧ i = .int n ∧ Hi l = some (.lst xs) ∧ ixN xs.length n = some j ∧ Go w D σ (upd Hi l (.lst (xs.set j v)))) : Go (tSeq (tAsg te (gSub ta tb rSetL)) w) D σ H := fun H1 e =>
  h H1 e _ fun v H2 ⟨_, e2, h2⟩ => h2 H2 e2 _ fun o H3 ⟨_, e3, h3⟩ => h3 H3 e3 _ fun i H4 ⟨Hi, e4, l, xs, n, j, eo, ei, hl, hj, g⟩ => ⟨l, xs, n, j, eo, ei, e4 _ _ hl, hj, g _ (Ex.updm e4)⟩
theorem g1_set (h : EvK te σ H fun v Hv => EvK ta σ Hv fun o Ho => EvK tb σ Ho fun i Hi => ∃ l xs n j, o = .ref l ∧ i = .int n ∧ Hi l = some (.lst xs) ∧ ixN xs.length n = some j ∧ ∀ H1, Ex (upd Hi l (.lst (xs.set j v))) H1 → D.nx σ H1) : Go (tAsg te (gSub ta tb rSetL)) D σ H := fun H1 e =>
  h H1 e _ fun v H2 ⟨_, e2, h2⟩ => h2 H2 e2 _ fun o H3 ⟨_, e3, h3⟩ => h3 H3 e3 _ fun i H4 ⟨Hi, e4, l, xs, n, j, eo, ei, hl, hj, g⟩ => ⟨l, xs, n, j, eo, ei, e4 _ _ hl, hj, g _ (Ex.updm e4)⟩

theorem g2_set (h : EvK te σ H fun v Hv => EvK ta σ Hv fun o Ho => EvK tb σ Ho fun i Hi => ∃ l xs n j, o = .ref l ∧ i = .int n ∧ Hi l = some (.lst xs) ∧ ixN xs.length n = some j ∧ Go w D σ (upd Hi l (.lst (xs.set j v)))) : Go (tAsg te (gSub ta tb rSetL)) { D with nx := w D } σ H := g1_set h

/-! ### loops: a word (Pv) of the turn, the slots and the smallest heap -/
/-- a state that the word allows, the heap grown -/
def Lp (Pv : Nat → L2.St → Hp → Prop) (i : Nat) (σ : L2.St) (H : Hp) : Prop := ∃ Hx, Ex Hx H ∧ Pv i σ Hx
theorem gs_forL {a : Addr} {xs : List V} {j : Nat} (Pv : Nat → L2.St → Hp → Prop) (h : EvK te σ H fun v Hx => v = .ref a ∧ SqL K Hx a xs ∧ Pv 0 σ Hx) (hl : ∀ i σ' H', i ≤ xs.length → Pv i σ' H' → SqL K H' a xs)
    (hs : ∀ i x σ' H', xs[i]? = some x → Pv i σ' H' → Go s { D with nx := Lp Pv (i + 1), ct := Lp Pv (i + 1), bk := w D } (σ'.set j (some x)) H') (hd : ∀ σ' H', Pv xs.length σ' H' → Go w D σ' H') : Go (tSeq (tFor (iList K te) (gName j) s) w) D σ H := fun H1 e =>
  h H1 e _ fun v H2 ⟨Hx, ex, ev, hq, h0⟩ => ⟨a, ev, ⟨xs, ex_l ex hq⟩, for_list (D := { D with nx := w D }) (Lp Pv) ⟨Hx, ex, h0⟩ (fun i σ' H' hi ⟨Hy, ey, p⟩ => ex_l ey (hl i σ' Hy hi p)) (fun i x σ' H' hi ⟨Hy, ey, p⟩ => hs i x σ' Hy hi p H' ey) (fun σ' H' ⟨Hy, ey, p⟩ => hd σ' Hy p H' ey)⟩
/-- over a list that is made on the way -/
theorem gs_forF {j : Nat} (h : EvK te σ H fun v Hx => ∃ (a : Addr) (xs : List V) (Pv : Nat → L2.St → Hp → Prop), v = .ref a ∧ SqL K Hx a xs ∧ Pv 0 σ Hx ∧ (∀ i σ' H', i ≤ xs.length → Pv i σ' H' → SqL K H' a xs) ∧
    (∀ i x σ' H', xs[i]? = some x → Pv i σ' H' → Go s { D with nx := Lp Pv (i + 1), ct := Lp Pv (i + 1), bk := w D } (σ'.set j (some x)) H') ∧ (∀ σ' H', Pv xs.length σ' H' → Go w D σ' H')) : Go (tSeq (tFor (iList K te) (gName j) s) w) D σ H := fun H1 e =>
  h H1 e _ fun v H2 ⟨Hx, ex, a, xs, Pv, ev, hq, h0, hl, hs, hd⟩ => ⟨a, ev, ⟨xs, ex_l ex hq⟩, for_list (D := { D with nx := w D }) (Lp Pv) ⟨Hx, ex, h0⟩ (fun i σ' H' hi ⟨Hy, ey, p⟩ => ex_l ey (hl i σ' Hy hi p)) (fun i x σ' H' hi ⟨Hy, ey, p⟩ => hs i x σ' Hy hi p H' ey) (fun σ' H' ⟨Hy, ey, p⟩ => hd σ' Hy p H' ey)⟩
theorem g1_forL {a : Addr} {xs : List V} {j : Nat} (Pv : Nat → L2.St → Hp → Prop) (h : EvK te σ H fun v Hx => v = .ref a ∧ SqL K Hx a xs ∧ Pv 0 σ Hx) (hl : ∀ i σ' H', i ≤ xs.length → Pv i σ' H' → SqL K H' a xs)
    (hs : ∀ i x σ' H', xs[i]? = some x → Pv i σ' H' → Go s { D with nx := Lp Pv (i + 1), ct := Lp Pv (i + 1), bk := D.nx } (σ'.set j (some x)) H') (hd : ∀ σ' H', Pv xs.length σ' H' → ∀ H1, Ex H' H1 → D.nx σ' H1) : Go (tFor (iList K te) (gName j) s) D σ H := fun H1 e =>
  h H1 e _ fun v H2 ⟨Hx, ex, ev, hq, h0⟩ => ⟨a, ev, ⟨xs, ex_l ex hq⟩, for_list (Lp Pv) ⟨Hx, ex, h0⟩ (fun i σ' H' hi ⟨Hy, ey, p⟩ => ex_l ey (hl i σ' Hy hi p)) (fun i x σ' H' hi ⟨Hy, ey, p⟩ => hs i x σ' Hy hi p H' ey) (fun σ' H' ⟨Hy, ey, p⟩ => hd σ' Hy p H' ey)⟩
theorem gs_forR {n : Int} {tl : TA} {j : Nat} (Pv : Nat → L2.St → Hp → Prop) (h : EvAK tl σ H fun vs Hx => vs = [.int n] ∧ n ≤ 100000 ∧ 0 ≤ n ∧ Pv 0 σ Hx)
    (hs : ∀ (i : Nat) σ' H', (i : Int) < n → Pv i σ' H' → Go s { D with nx := Lp Pv (i + 1), ct := Lp Pv (i + 1), bk := w D } (σ'.set j (some (.int (i : Int)))) H') (hd : ∀ σ' H', Pv n.toNat σ' H' → Go w D σ' H') : Go (tSeq (tFor (iRng1 tl) (gName j) s) w) D σ H := fun H1 e =>
  h H1 e _ fun vs H2 ⟨Hx, ex, ev, hn, hn0, h0⟩ => ⟨n, ev, by omega, by omega, for_range (D := { D with nx := w D }) (lo := 0) (n := n.toNat) (Lp Pv) ⟨Hx, ex, h0⟩ (fun i σ' H' hi ⟨Hy, ey, p⟩ => by
    have e0 : (0 : Int) + (i : Int) = (i : Int) := Int.zero_add _
    show s _ (σ'.set j (some (.int ((0 : Int) + (i : Int))))) H'
    rw [e0]
    exact hs i σ' Hy (by omega) p H' ey) (fun σ' H' ⟨Hy, ey, p⟩ => hd σ' Hy p H' ey)⟩
theorem gs_forR2 {lo n : Int} {tl : TA} {j : Nat} (Pv : Nat → L2.St → Hp → Prop) (h : EvAK tl σ H fun vs Hx => vs = [.int lo, .int n] ∧ (0 ≤ lo ∧ lo ≤ 100000 ∧ -100000 ≤ n ∧ n ≤ 100000) ∧ Pv 0 σ Hx)
    (hs : ∀ (i : Nat) σ' H', lo + (i : Int) < n → Pv i σ' H' → Go s { D with nx := Lp Pv (i + 1), ct := Lp Pv (i + 1), bk := w D } (σ'.set j (some (.int (lo + (i : Int))))) H') (hd : ∀ σ' H', Pv (n - lo).toNat σ' H' → Go w D σ' H') : Go (tSeq (tFor (iRng2 tl) (gName j) s) w) D σ H := fun H1 e =>
  h H1 e _ fun vs H2 ⟨Hx, ex, ev, hn, h0⟩ => ⟨lo, n, ev, ⟨by omega, by omega, by omega, by omega⟩, for_range (D := { D with nx := w D }) (lo := lo) (n := (n - lo).toNat) (Lp Pv) ⟨Hx, ex, h0⟩ (fun i σ' H' hi ⟨Hy, ey, p⟩ => hs i σ' Hy (by omega) p H' ey) (fun σ' H' ⟨Hy, ey, p⟩ => hd σ' Hy p H' ey)⟩

/-! ### comprehensions: [e for x in range(n)], [e for x in xs]; the elements v i -/
/-- the words of an element: at any heap that has grown, the value alone -/
theorem k_lcR {n : Int} {tl : TA} {j : Nat} {vs : List Nat} (f : Nat → V) (h : EvAK tl σ H fun ws Hx => ws = [.int n] ∧ n ≤ 40000 ∧ 0 ≤ n ∧ (∀ x, wipe ((wipe σ vs).set j (some x)) vs = wipe σ vs) ∧ (∀ (i : Nat) Hz, (i : Int) < n → Ex Hx Hz → EvK te ((wipe σ vs).set j (some (.int (i : Int)))) Hz fun v Hy => v = f i ∧ Hy = Hz) ∧ ∀ p, Hx p = none → P (.ref p) (upd Hx p (.lst ((List.range n.toNat).map f)))) :
    EvK (tLc (iRng1 tl) (gName j) tYes te vs) σ H P := fun H1 e Q k =>
  h H1 e _ fun ws H2 ⟨Hx, ex, ev, hn, hn0, hw, hs, hd⟩ => ⟨n, ev, by omega, by omega, fun p np => by
    have npx : Hx p = none := fresh_back ex np
    refine lc_range (lo := 0) (n := n.toNat) (fun i H' => Ex (upd Hx p (.lst ((List.range i).map f))) H') (Ex.updm ex) (fun i H' hi p' => ?_) (fun H' p' => k _ _ ⟨_, p', hd p npx⟩)
    have e0 : (0 : Int) + (i : Int) = (i : Int) := Int.zero_add _
    show wipe ((wipe σ vs).set j (some (.int ((0 : Int) + (i : Int))))) vs = wipe σ vs ∧ te ((wipe σ vs).set j (some (.int ((0 : Int) + (i : Int))))) H' fun y H4 => ∃ acc, H4 p = some (.lst acc) ∧ acc.length < sizeLine ∧ Ex (upd Hx p (.lst ((List.range (i + 1)).map f))) (upd H4 p (.lst (acc ++ [y])))
    rw [e0]
    refine ⟨hw _, hs i (upd Hx p (.lst ((List.range i).map f))) (by omega) (Ex.new npx) H' p' _ ?_⟩
    rintro y H4 ⟨Hy, ey, rfl, rfl⟩
    refine ⟨_, ey p _ upd_same, sz_lt (by rw [List.length_map, List.length_range]; omega), ?_⟩
    have e5 : (List.range (i + 1)).map f = (List.range i).map f ++ [f i] := by rw [List.range_succ, List.map_append]; rfl
    rw [e5]
    exact Ex.updm (fun a u q => by
      by_cases ha : a = p
      · subst ha
        rw [npx] at q
        cases q
      · exact ey a u (by rw [upd_ne ha]; exact q))⟩
theorem k_lcL {a : Addr} {xs : List V} {j : Nat} {vs : List Nat} {tl : TE} (f : Nat → V → V) (h : EvK tl σ H fun w Hx => w = .ref a ∧ SqL K Hx a xs ∧ xs.length ≤ 40000 ∧ (∀ x, wipe ((wipe σ vs).set j (some x)) vs = wipe σ vs) ∧ (∀ (i : Nat) x Hz, xs[i]? = some x → Ex Hx Hz → EvK te ((wipe σ vs).set j (some x)) Hz fun v Hy => v = f i x ∧ Hy = Hz) ∧ ∀ p, Hx p = none → P (.ref p) (upd Hx p (.lst (xs.mapIdx f)))) :
    EvK (tLc (iList K tl) (gName j) tYes te vs) σ H P := fun H1 e Q k =>
  h H1 e _ fun w H2 ⟨Hx, ex, ev, hq, hn, hw, hs, hd⟩ => ⟨a, ev, ⟨xs, ex_l ex hq⟩, fun p np => by
    have npx : Hx p = none := fresh_back ex np
    refine lc_list (xs := xs) (fun i H' => Ex (upd Hx p (.lst ((xs.take i).mapIdx f))) H') (Ex.updm ex) (fun i H' _ p' => ex_l p' (ex_l (Ex.new npx) hq)) (fun i x H' hi p' => ?_) (fun H' p' => k _ _ ⟨_, p', by rw [List.take_length]; exact hd p npx⟩)
    show wipe ((wipe σ vs).set j (some x)) vs = wipe σ vs ∧ te ((wipe σ vs).set j (some x)) H' fun y H4 => ∃ acc, H4 p = some (.lst acc) ∧ acc.length < sizeLine ∧ Ex (upd Hx p (.lst ((xs.take (i + 1)).mapIdx f))) (upd H4 p (.lst (acc ++ [y])))
    have hlt : i < xs.length := (List.getElem?_eq_some_iff.mp hi).1
    refine ⟨hw _, hs i x (upd Hx p (.lst ((xs.take i).mapIdx f))) hi (Ex.new npx) H' p' _ ?_⟩
    rintro y H4 ⟨Hy, ey, rfl, rfl⟩
    refine ⟨_, ey p _ upd_same, sz_lt (by rw [List.length_mapIdx, List.length_take]; omega), ?_⟩
    have e5 : (xs.take (i + 1)).mapIdx f = (xs.take i).mapIdx f ++ [f i x] := by
      rw [List.take_succ, hi, List.mapIdx_append, List.length_take, Nat.min_eq_left (Nat.le_of_lt hlt)]
      simp
    rw [e5]
    exact Ex.updm (fun a u q => by
      by_cases ha : a = p
      · subst ha
        rw [npx] at q
        cases q
      · exact ey a u (by rw [upd_ne ha]; exact q))⟩

/-! ### targets -/
def GK (g : TG) (v : V) (σ : L2.St) (H : Hp) (R : L2.St → Hp → Prop) : Prop := ∀ H1, Ex H H1 → ∀ Q : L2.St → Hp → Prop, (∀ σ' H2, (∃ Hx, Ex Hx H2 ∧ R σ' Hx) → Q σ' H2) → g v σ H1 Q
theorem gk_name {i : Nat} {R : L2.St → Hp → Prop} (h : R (σ.set i (some v)) H) : GK (gName i) v σ H R := fun H1 e Q k => k _ _ ⟨H, e, h⟩
theorem gk_tup2 {a : Addr} {g1 g2 : TG} {R : L2.St → Hp → Prop} (hq : SqT K H a [x, y]) (h : GK g1 x σ H fun σ1 H1 => GK g2 y σ1 H1 R) : GK (gTup K 2 (gCons g1 (gCons g2 gNil))) (.ref a) σ H R := fun H1 e Q k =>
  ⟨a, [x, y], rfl, ex_t e hq, rfl, x, [y], rfl, h H1 e _ fun σ1 H2 ⟨_, ex, h2⟩ => ⟨y, [], rfl, h2 H2 ex _ fun σ2 H3 z => ⟨rfl, k σ2 H3 z⟩⟩⟩
theorem gk_tup3 {a : Addr} {g1 g2 g3 : TG} {R : L2.St → Hp → Prop} (hq : SqT K H a [x, y, z]) (h : GK g1 x σ H fun σ1 H1 => GK g2 y σ1 H1 fun σ2 H2 => GK g3 z σ2 H2 R) : GK (gTup K 3 (gCons g1 (gCons g2 (gCons g3 gNil)))) (.ref a) σ H R := fun H1 e Q k =>
  ⟨a, [x, y, z], rfl, ex_t e hq, rfl, x, [y, z], rfl, h H1 e _ fun σ1 H2 ⟨_, ex, h2⟩ => ⟨y, [z], rfl, h2 H2 ex _ fun σ2 H3 ⟨_, ey, h3⟩ => ⟨z, [], rfl, h3 H3 ey _ fun σ3 H4 u => ⟨rfl, k σ3 H4 u⟩⟩⟩⟩
theorem gs_asgG {g : TG} (h : EvK te σ H fun v Hx => GK g v σ Hx fun σ' Hy => Go w D σ' Hy) : Go (tSeq (tAsg te g) w) D σ H := fun H1 e => h H1 e _ fun v H2 ⟨_, ex, gk⟩ => gk H2 ex _ fun σ' H3 ⟨_, ey, go⟩ => go H3 ey
theorem gs_forG {g : TG} (h : EvK te σ H fun v Hx => ∃ (a : Addr) (xs : List V) (Pv : Nat → L2.St → Hp → Prop), v = .ref a ∧ SqL K Hx a xs ∧ Pv 0 σ Hx ∧ (∀ i σ' H', i ≤ xs.length → Pv i σ' H' → SqL K H' a xs) ∧
    (∀ i x σ' H', xs[i]? = some x → Pv i σ' H' → GK g x σ' H' fun σ2 H2 => Go s { D with nx := Lp Pv (i + 1), ct := Lp Pv (i + 1), bk := w D } σ2 H2) ∧ (∀ σ' H', Pv xs.length σ' H' → Go w D σ' H')) : Go (tSeq (tFor (iList K te) g s) w) D σ H := fun H1 e =>
  h H1 e _ fun v H2 ⟨Hx, ex, a, xs, Pv, ev, hq, h0, hl, hs, hd⟩ => ⟨a, ev, ⟨xs, ex_l ex hq⟩, for_list (D := { D with nx := w D }) (Lp Pv) ⟨Hx, ex, h0⟩ (fun i σ' H' hi ⟨Hy, ey, p⟩ => ex_l ey (hl i σ' Hy hi p)) (fun i x σ' H' hi ⟨Hy, ey, p⟩ => hs i x σ' Hy hi p H' ey _ fun σ2 H2 ⟨_, ez, go⟩ => go H2 ez) (fun σ' H' ⟨Hy, ey, p⟩ => hd σ' Hy p H' ey)⟩
/-- for x, y in zip(xs, ys): two lists of one length -/
theorem gs_forZ {g1 g2 : TG} {tl : TA} (h : EvAK tl σ H fun vs Hx => ∃ (a b : Addr) (xs ys : List V) (Pv : Nat → L2.St → Hp → Prop), vs = [.ref a, .ref b] ∧ SqL K Hx a xs ∧ SqL K Hx b ys ∧ xs.length = ys.length ∧ Pv 0 σ Hx ∧ (∀ i σ' H', Pv i σ' H' → SqL K H' a xs ∧ SqL K H' b ys) ∧
    (∀ i x y σ' H', xs[i]? = some x → ys[i]? = some y → Pv i σ' H' → GK g1 x σ' H' fun σ1 H1 => GK g2 y σ1 H1 fun σ2 H2 => Go s { D with nx := Lp Pv (i + 1), ct := Lp Pv (i + 1), bk := w D } σ2 H2) ∧ (∀ σ' H', Pv xs.length σ' H' → Go w D σ' H')) :
    Go (tSeq (tFor (iZip K tl) (gTup K 2 (gCons g1 (gCons g2 gNil))) s) w) D σ H := fun H1 e =>
  h H1 e _ fun vs H2 ⟨Hx, ex, a, b, xs, ys, Pv, ev, hx, hy, hl, h0, hq, hs, hd⟩ => ⟨a, b, xs, ys, ev, ex_l ex hx, ex_l ex hy, RZ.for_zipL (D := { D with nx := w D }) hl (Lp Pv) ⟨Hx, ex, h0⟩ (fun i σ' H' ⟨Hy, ey, p⟩ => ⟨ex_l ey (hq i σ' Hy p).1, ex_l ey (hq i σ' Hy p).2⟩)
    (fun i x y T σ' H' gx gy ⟨Hy, ey, p⟩ nT => gk_tup2 (H := upd H' T (.tup [x, y])) (st_of upd_same) (fun H3 e3 Q k => hs i x y σ' Hy gx gy p H3 ((ey.trans (Ex.new nT)).trans e3) Q k) _ (Ex.refl _) _ fun σ2 H2 ⟨_, ez, go⟩ => go H2 ez) (fun σ' H' ⟨Hy, ey, p⟩ => hd σ' Hy p H' ey)⟩
/-- divmod -/
theorem c_divmod {i j : Int} (hc : CDiv i j) (hp : ∀ p, H p = none → P (.ref p) (upd H p (.tup [.int (i / j), .int (i % j)]))) : CK (fun xs H Q => ∃ i j, xs = [.int i, .int j] ∧ CDiv i j ∧ ∀ p, H p = none → Q (.ref p) (upd H p (.tup [.int (i / j), .int (i % j)]))) [.int i, .int j] H P := fun H1 e Q k => ⟨i, j, rfl, hc, fun p np => k _ _ ⟨_, Ex.updm e, hp p (fresh_back e np)⟩⟩
/-- a statement whose ways meet: what holds behind it, told once -/
def Md (Pc : L2.St → Hp → Prop) (σ : L2.St) (H : Hp) : Prop := ∃ Hx, Ex Hx H ∧ Pc σ Hx
theorem gs_mid (Pc : L2.St → Hp → Prop) (h : Go s { D with nx := Md Pc } σ H) (R : ∀ σ' H', Pc σ' H' → Go w D σ' H') : Go (Evl.tCut s w) D σ H := fun H1 e => ⟨Md Pc, h H1 e, fun σ' H' ⟨Hx, ex, p⟩ => R σ' Hx p H' ex⟩
theorem g1_forF {j : Nat} (h : EvK te σ H fun v Hx => ∃ (a : Addr) (xs : List V) (Pv : Nat → L2.St → Hp → Prop), v = .ref a ∧ SqL K Hx a xs ∧ Pv 0 σ Hx ∧ (∀ i σ' H', i ≤ xs.length → Pv i σ' H' → SqL K H' a xs) ∧
    (∀ i x σ' H', xs[i]? = some x → Pv i σ' H' → Go s { D with nx := Lp Pv (i + 1), ct := Lp Pv (i + 1), bk := D.nx } (σ'.set j (some x)) H') ∧ (∀ σ' H', Pv xs.length σ' H' → ∀ H1, Ex H' H1 → D.nx σ' H1)) : Go (tFor (iList K te) (gName j) s) D σ H := fun H1 e =>
  h H1 e _ fun v H2 ⟨Hx, ex, a, xs, Pv, ev, hq, h0, hl, hs, hd⟩ => ⟨a, ev, ⟨xs, ex_l ex hq⟩, for_list (Lp Pv) ⟨Hx, ex, h0⟩ (fun i σ' H' hi ⟨Hy, ey, p⟩ => ex_l ey (hl i σ' Hy hi p)) (fun i x σ' H' hi ⟨Hy, ey, p⟩ => hs i x σ' Hy hi p H' ey) (fun σ' H' ⟨Hy, ey, p⟩ => hd σ' Hy p H' ey)⟩
end
end Px

set_option Elab.async false
set_option linter.all false
/-! Pm: plain mathematics: rows in order, what the fullest hold together. -/
namespace Pm
/-- a row in order, the fullest first -/
def sd (ns : List Int) : List Int := ns.mergeSort fun a b => decide (b ≤ a)
theorem sd_perm (ns : List Int) : (sd ns).Perm ns := List.mergeSort_perm ns _
theorem sd_sorted (ns : List Int) : (sd ns).Pairwise (· ≥ ·) := by
  have h := List.pairwise_mergeSort (le := fun a b : Int => decide (b ≤ a)) (fun a b c h1 h2 => by
    have h1' := of_decide_eq_true h1
    have h2' := of_decide_eq_true h2
    exact decide_eq_true (by omega)) (fun a b => by
    by_cases h : b ≤ a
    · rw [decide_eq_true h]; rfl
    · have h2 : a ≤ b := by omega
      rw [decide_eq_true h2, Bool.or_true]) ns
  exact h.imp fun h => of_decide_eq_true h
theorem sd_uniq {l ns : List Int} (p : l.Perm ns) (s : l.Pairwise (· ≥ ·)) : l = sd ns :=
  List.Perm.eq_of_pairwise (le := (· ≥ ·)) (fun a b _ _ h1 h2 => by omega) s (sd_sorted ns) (p.trans (sd_perm ns).symm)
theorem sd_of_perm {a b : List Int} (p : a.Perm b) : sd a = sd b := sd_uniq ((sd_perm a).trans p) (sd_sorted a)
theorem sd_len (ns : List Int) : (sd ns).length = ns.length := (sd_perm ns).length_eq
theorem sd_reverse (ns : List Int) : sd ns.reverse = sd ns := sd_of_perm (List.reverse_perm ns)
theorem perm_sum {a b : List Int} (p : a.Perm b) : a.sum = b.sum := by
  induction p with
  | nil => rfl
  | cons x _ ih => rw [List.sum_cons, List.sum_cons, ih]
  | swap x y l => rw [List.sum_cons, List.sum_cons, List.sum_cons, List.sum_cons]; omega
  | trans _ _ h1 h2 => exact h1.trans h2
/-- the sums of the first k, for each k -/
def psums (l : List Int) : List Int := (List.range (l.length + 1)).map fun k => (l.take k).sum
def tops (ns : List Int) : List Int := psums (sd ns)
theorem psums_len (l : List Int) : (psums l).length = l.length + 1 := by unfold psums; rw [List.length_map, List.length_range]
theorem tops_len (l : List Int) : (tops l).length = l.length + 1 := by unfold tops; rw [psums_len, sd_len]
theorem take_more {α : Type} {l : List α} {i : Nat} {x : α} (h : l[i]? = some x) : l.take (i + 1) = l.take i ++ [x] := by
  rw [List.take_succ, h]; rfl
theorem sum_take {l : List Int} {i : Nat} {x : Int} (h : l[i]? = some x) : (l.take (i + 1)).sum = (l.take i).sum + x := by
  rw [take_more h, List.sum_append, List.sum_cons, List.sum_nil]; omega
theorem psums_get {l : List Int} {k : Nat} (h : k ≤ l.length) : (psums l)[k]? = some (l.take k).sum := by
  unfold psums
  rw [List.getElem?_map, List.getElem?_range (by omega)]
  rfl
theorem map_at {ns : List Int} {i : Nat} {x : L2.V} (h : (ns.map L2.V.int)[i]? = some x) : ∃ z, ns[i]? = some z ∧ x = L2.V.int z := by
  rw [List.getElem?_map] at h
  cases e : ns[i]? with
  | none => rw [e] at h; cases h
  | some z => rw [e] at h; exact ⟨z, rfl, (Option.some.inj h).symm⟩
theorem atI_map {ns : List Int} {k : Nat} {z : Int} (h : ns[k]? = some z) : L2.atI (ns.map L2.V.int) (k : Int) = some (L2.V.int z) := L2.atI_nat (by rw [List.getElem?_map, h]; rfl)
theorem range_getD {α : Type} (l : List Int) (f : Int → α) : (List.range l.length).map (fun i => f (l.getD i 0)) = l.map f := by
  apply List.ext_getElem
  · rw [List.length_map, List.length_range, List.length_map]
  · intro i h1 h2
    rw [List.length_map] at h2
    rw [List.getElem_map, List.getElem_map, List.getElem_range, List.getD_eq_getElem?_getD, List.getElem?_eq_getElem h2]
    rfl
open L2 Evl Px in
/-- sorted(xs, reverse=True) -/
theorem c_sortedRev {K : PySem.W.Frag} {H : Hp} {P : V → Hp → Prop} {a : PySem.Addr} {ns : List Int} (h : SqL K H a (ns.map V.int)) (hp : ∀ p, H p = none → P (.ref p) (upd H p (.lst ((sd ns).map V.int)))) : Kc (rSortedKw K true [.bl true] [.ref a] [.bl true]) H P := fun H1 e Q k =>
  ⟨a, ns, rfl, rfl, ex_l e h, fun ns' p hp' ho np => by
    have e2 : ns' = sd ns := sd_uniq hp' ho
    subst e2
    exact k _ _ ⟨_, Ex.updm e, hp p (fresh_back e np)⟩⟩

theorem atI_neg {α : Type} {l : List α} (h : 0 < l.length) : L2.atI l (-1) = l[l.length - 1]? := by
  unfold L2.atI L2.ixN
  rw [if_neg (by omega), if_pos (by omega)]
  show l[(-1 + (l.length : Int)).toNat]? = _
  congr 1
  omega
theorem atI_last {l : List Int} (h : 0 < l.length) : L2.atI (l.map L2.V.int) (-1) = some (L2.V.int (l.getD (l.length - 1) 0)) := by
  rw [atI_neg (by rw [List.length_map]; exact h), List.length_map, List.getElem?_map, List.getD_eq_getElem?_getD, List.getElem?_eq_getElem (by omega)]
  rfl

/-! ### sums -/
theorem rsum_succ (f : Nat → Int) (k : Nat) : ((List.range (k + 1)).map f).sum = ((List.range k).map f).sum + f k := by
  rw [List.range_succ, List.map_append, List.sum_append]
  show _ + (f k + 0) = _
  omega
theorem sum_ge {x : Int} : ∀ {l : List Int}, (∀ y ∈ l, x ≤ y) → (l.length : Int) * x ≤ l.sum
  | [], _ => by simp
  | a :: l, h => by
    have h1 := sum_ge (x := x) (l := l) fun y hy => h y (List.mem_cons_of_mem _ hy)
    have h2 := h a List.mem_cons_self
    rw [List.length_cons, List.sum_cons]
    have e : ((l.length + 1 : Nat) : Int) * x = (l.length : Int) * x + x := by
      rw [Int.natCast_add, Int.add_mul]
      show _ + 1 * x = _
      rw [Int.one_mul]
    omega
theorem sum_le {x : Int} : ∀ {l : List Int}, (∀ y ∈ l, y ≤ x) → l.sum ≤ (l.length : Int) * x
  | [], _ => by simp
  | a :: l, h => by
    have h1 := sum_le (x := x) (l := l) fun y hy => h y (List.mem_cons_of_mem _ hy)
    have h2 := h a List.mem_cons_self
    rw [List.length_cons, List.sum_cons]
    have e : ((l.length + 1 : Nat) : Int) * x = (l.length : Int) * x + x := by
      rw [Int.natCast_add, Int.add_mul]
      show _ + 1 * x = _
      rw [Int.one_mul]
    omega
theorem abs_sum {b : Nat} : ∀ {l : List Int}, (∀ y ∈ l, y.natAbs < b) → l.sum.natAbs ≤ l.length * b
  | [], _ => by simp
  | a :: l, h => by
    have h1 := abs_sum (b := b) (l := l) fun y hy => h y (List.mem_cons_of_mem _ hy)
    have h2 := h a List.mem_cons_self
    rw [List.length_cons, List.sum_cons, Nat.add_mul]
    omega
theorem sum_bd {b : Nat} {l : List Int} (h : ∀ y ∈ l, Px.Bd b y) (hl : l.length ≤ 100) : Px.Bd (b + 7) l.sum := by
  have h1 := abs_sum (b := 2 ^ b) h
  have h2 : l.length * 2 ^ b ≤ 100 * 2 ^ b := Nat.mul_le_mul_right _ hl
  unfold Px.Bd
  rw [Nat.pow_add]
  have h3 : 0 < 2 ^ b := Nat.pow_pos (by decide)
  omega
/-- the sum of the squares -/
def sq (l : List Int) : Int := (l.map fun x => x * x).sum
theorem sq_take {l : List Int} {i : Nat} {x : Int} (h : l[i]? = some x) : sq (l.take (i + 1)) = sq (l.take i) + x * x := by
  unfold sq
  rw [take_more h, List.map_append, List.sum_append]
  show _ + (x * x + 0) = _
  omega
theorem sq_bd {b : Nat} {l : List Int} (h : ∀ y ∈ l, Px.Bd b y) (hl : l.length ≤ 100) : Px.Bd (b + b + 7) (sq l) := sum_bd (fun y hy => by
  obtain ⟨x, hx, rfl⟩ := List.mem_map.mp hy
  exact (h x hx).mul (h x hx)) (by rw [List.length_map]; exact hl)
def spread (l : List Int) : Int := (l.length : Int) * sq l - l.sum * l.sum
theorem sq_perm {a b : List Int} (p : a.Perm b) : sq a = sq b := perm_sum (p.map _)
theorem spread_perm {a b : List Int} (p : a.Perm b) : spread a = spread b := by
  unfold spread
  rw [sq_perm p, perm_sum p, p.length_eq]
/-- the squared differences of x to each of l -/
def dsq (x : Int) (l : List Int) : Int := (l.map fun y => (x - y) * (x - y)).sum
theorem dsq_take {x : Int} {l : List Int} {i : Nat} {y : Int} (h : l[i]? = some y) : dsq x (l.take (i + 1)) = dsq x (l.take i) + (x - y) * (x - y) := by
  unfold dsq
  rw [take_more h, List.map_append, List.sum_append]
  show _ + ((x - y) * (x - y) + 0) = _
  omega
theorem dsq_eq (x : Int) : ∀ l : List Int, dsq x l = (l.length : Int) * (x * x) - 2 * x * l.sum + sq l
  | [] => by simp [dsq, sq]
  | y :: l => by
    have ih := dsq_eq x l
    have e1 : dsq x (y :: l) = (x - y) * (x - y) + dsq x l := by unfold dsq; rw [List.map_cons, List.sum_cons]
    have e2 : sq (y :: l) = y * y + sq l := by unfold sq; rw [List.map_cons, List.sum_cons]
    rw [e1, e2, ih, List.sum_cons, List.length_cons, Int.natCast_add]
    generalize l.sum = S
    generalize sq l = q
    generalize (l.length : Int) = n
    show _ = (n + 1) * (x * x) - _ + _
    grind
/-- all pairs, place by place -/
def pairs (l : List Int) : Nat → Int
  | 0 => 0
  | k + 1 => pairs l k + dsq (l.getD k 0) (l.take k)
theorem pairs_eq (l : List Int) : ∀ k, k ≤ l.length → pairs l k = (k : Int) * sq (l.take k) - (l.take k).sum * (l.take k).sum
  | 0, _ => by simp [pairs]
  | k + 1, h => by
    have ih := pairs_eq l k (by omega)
    have hx : l[k]? = some (l.getD k 0) := by
      rw [List.getD_eq_getElem?_getD, List.getElem?_eq_getElem (by omega)]
      rfl
    show pairs l k + dsq (l.getD k 0) (l.take k) = _
    rw [ih, dsq_eq, sq_take hx, sum_take hx, List.length_take, Nat.min_eq_left (by omega), Int.natCast_add]
    generalize (l.take k).sum = S
    generalize sq (l.take k) = q
    generalize l.getD k 0 = x
    generalize (k : Int) = n
    show _ = (n + 1) * _ - _
    grind
theorem pairs_all (l : List Int) : pairs l l.length = spread l := by
  rw [pairs_eq l _ (Nat.le_refl _), List.take_length]
  rfl
theorem getD_at {l : List Int} {i : Nat} (h : i < l.length) : l[i]? = some (l.getD i 0) := by
  rw [List.getD_eq_getElem?_getD, List.getElem?_eq_getElem h]
  rfl

/-! ### the level row -/
def lv (n : Nat) (s : Int) (k : Nat) : Int := s / (n : Int) + if (k : Int) < s % (n : Int) then 1 else 0
def level (n : Nat) (s : Int) : List Int := (List.range n).map (lv n s)
theorem level_len (n : Nat) (s : Int) : (level n s).length = n := by unfold level; rw [List.length_map, List.length_range]
theorem lv_sum {n : Nat} {s : Int} (h : 0 ≤ s % (n : Int)) : ∀ k : Nat, ((List.range k).map (lv n s)).sum = (k : Int) * (s / (n : Int)) + min (k : Int) (s % (n : Int))
  | 0 => by simp; omega
  | k + 1 => by
    rw [rsum_succ, lv_sum h k]
    unfold lv
    have e : ((k + 1 : Nat) : Int) * (s / (n : Int)) = (k : Int) * (s / (n : Int)) + s / (n : Int) := by
      rw [Int.natCast_add, Int.add_mul]
      show _ + 1 * _ = _
      rw [Int.one_mul]
    rw [e]
    split <;> omega
theorem level_take {n : Nat} {s : Int} {k : Nat} (h : k ≤ n) : (level n s).take k = (List.range k).map (lv n s) := by
  unfold level
  rw [← List.map_take, List.take_range, Nat.min_eq_left h]
theorem level_sum {n : Nat} {s : Int} (h : 0 < n) : (level n s).sum = s := by
  have h0 := Int.emod_nonneg s (show (n : Int) ≠ 0 by omega)
  have h1 := Int.emod_lt_of_pos s (show 0 < (n : Int) by omega)
  have e := lv_sum h0 n
  unfold level
  rw [e, Int.min_eq_right (by omega)]
  exact Int.mul_ediv_add_emod s n
theorem level_at {n : Nat} {s : Int} {k : Nat} (h : k < n) : (level n s)[k]? = some (lv n s k) := by
  unfold level
  rw [List.getElem?_map, List.getElem?_range h]
  rfl
theorem lv_mono {n : Nat} {s : Int} {i j : Nat} (h : i ≤ j) : lv n s j ≤ lv n s i := by
  unfold lv
  split <;> split <;> omega
theorem level_sorted (n : Nat) (s : Int) : (level n s).Pairwise (· ≥ ·) := by
  unfold level
  rw [List.pairwise_map]
  exact List.pairwise_lt_range.imp fun h => lv_mono (Nat.le_of_lt h)
theorem sd_level (n : Nat) (s : Int) : sd (level n s) = level n s := (sd_uniq (List.Perm.refl _) (level_sorted n s)).symm
theorem lv_sq {n : Nat} {s : Int} (h : 0 ≤ s % (n : Int)) : ∀ k : Nat, ((List.range k).map fun i => lv n s i * lv n s i).sum = (k : Int) * ((s / (n : Int)) * (s / (n : Int))) + min (k : Int) (s % (n : Int)) * (2 * (s / (n : Int)) + 1)
  | 0 => by
    have e : min ((0 : Nat) : Int) (s % (n : Int)) = 0 := by omega
    rw [e]
    simp
  | k + 1 => by
    rw [rsum_succ, lv_sq h k]
    unfold lv
    rw [Int.natCast_add]
    by_cases c : (k : Int) < s % (n : Int)
    · rw [if_pos c, Int.min_eq_left (by omega), Int.min_eq_left (by omega)]
      generalize s / (n : Int) = q
      generalize (k : Int) = m
      show _ = (m + 1) * _ + (m + 1) * _
      grind
    · rw [if_neg c, Int.min_eq_right (by omega), Int.min_eq_right (by omega)]
      generalize s / (n : Int) = q
      generalize s % (n : Int) = r
      generalize (k : Int) = m
      show _ = (m + 1) * _ + _
      grind
theorem spread_level {n : Nat} {s : Int} (h : 0 < n) : spread (level n s) = s % (n : Int) * ((n : Int) - s % (n : Int)) := by
  have h0 := Int.emod_nonneg s (show (n : Int) ≠ 0 by omega)
  have h1 := Int.emod_lt_of_pos s (show 0 < (n : Int) by omega)
  have e1 : sq (level n s) = (n : Int) * ((s / (n : Int)) * (s / (n : Int))) + s % (n : Int) * (2 * (s / (n : Int)) + 1) := by
    unfold sq level
    rw [List.map_map]
    have e := lv_sq h0 n
    rw [Int.min_eq_right (by omega)] at e
    exact e
  unfold spread
  rw [e1, level_sum h, level_len]
  have e2 := Int.mul_ediv_add_emod s n
  generalize s / (n : Int) = q at *
  generalize s % (n : Int) = r at *
  generalize (n : Int) = m at *
  subst e2
  grind
theorem spread_nil : spread [] = 0 := rfl
/-- no k of the fullest hold less than the level row's -/
theorem level_below {l : List Int} (hs : l.Pairwise (· ≥ ·)) {k : Nat} (hk : k ≤ l.length) : ((level l.length l.sum).take k).sum ≤ (l.take k).sum := by
  rw [level_take hk]
  cases k with
  | zero => simp
  | succ m =>
    have hn : (l.length : Int) ≠ 0 := by omega
    have h0 := Int.emod_nonneg l.sum hn
    have h1 := Int.emod_lt_of_pos l.sum (show 0 < (l.length : Int) by omega)
    rw [lv_sum h0]
    have e2 := Int.mul_ediv_add_emod l.sum l.length
    have hx := getD_at (l := l) (i := m) (by omega)
    generalize l.getD m 0 = x at hx
    have htd : l.take (m + 1) ++ l.drop (m + 1) = l := List.take_append_drop _ _
    have hsum : (l.take (m + 1)).sum + (l.drop (m + 1)).sum = l.sum := by
      rw [← List.sum_append, htd]
    have hp : ∀ i j (a b : Int), i < j → l[i]? = some a → l[j]? = some b → b ≤ a := fun i j a b hij ha hb => by
      obtain ⟨h3, rfl⟩ := List.getElem?_eq_some_iff.mp ha
      obtain ⟨h4, rfl⟩ := List.getElem?_eq_some_iff.mp hb
      exact List.pairwise_iff_getElem.mp hs i j h3 h4 hij
    have g1 : ∀ y ∈ l.take (m + 1), x ≤ y := fun y hy => by
      obtain ⟨i, hi⟩ := List.mem_iff_getElem?.mp hy
      rw [List.getElem?_take] at hi
      split at hi
      · rename_i c
        by_cases e : i = m
        · subst e
          rw [hx] at hi
          have := Option.some.inj hi
          omega
        · exact hp i m y x (by omega) hi hx
      · cases hi
    have g2 : ∀ y ∈ l.drop (m + 1), y ≤ x := fun y hy => by
      obtain ⟨i, hi⟩ := List.mem_iff_getElem?.mp hy
      rw [List.getElem?_drop] at hi
      exact hp m (m + 1 + i) x y (by omega) hx hi
    have s1 := sum_ge g1
    have s2 := sum_le g2
    rw [List.length_take, Nat.min_eq_left (by omega)] at s1
    rw [List.length_drop] at s2
    generalize l.sum / (l.length : Int) = q at *
    generalize l.sum % (l.length : Int) = r at *
    generalize (l.take (m + 1)).sum = T at *
    generalize (l.drop (m + 1)).sum = U at *
    have hd : ((l.length - (m + 1) : Nat) : Int) = (l.length : Int) - ((m + 1 : Nat) : Int) := by omega
    rw [hd] at s2
    have hkn : 0 ≤ (l.length : Int) - ((m + 1 : Nat) : Int) := by omega
    have hk0 : 0 ≤ ((m + 1 : Nat) : Int) := by omega
    generalize ((m + 1 : Nat) : Int) = K at *
    generalize (l.length : Int) = N at *
    by_cases c : q + 1 ≤ x
    · have e4 : K * (q + 1) ≤ K * x := Int.mul_le_mul_of_nonneg_left c hk0
      rw [Int.mul_add, Int.mul_one] at e4
      omega
    · have e4 : (N - K) * x ≤ (N - K) * q := Int.mul_le_mul_of_nonneg_left (by omega) hkn
      rw [Int.sub_mul (c := q)] at e4
      omega
theorem tops_at {l : List Int} {k : Nat} (h : k ≤ l.length) : (tops l)[k]? = some ((sd l).take k).sum := psums_get (by rw [sd_len]; exact h)
theorem tops_level_le {l : List Int} {k : Nat} {x y : Int} (hx : (tops (level l.length l.sum))[k]? = some x) (hy : (tops l)[k]? = some y) : x ≤ y := by
  have hk : k ≤ l.length := by
    have h := (List.getElem?_eq_some_iff.mp hy).1
    rw [tops_len] at h
    omega
  rw [tops_at hk] at hy
  rw [tops_at (by rw [level_len]; exact hk), sd_level] at hx
  have e1 := Option.some.inj hx
  have e2 := Option.some.inj hy
  have h := level_below (sd_sorted l) (k := k) (by rw [sd_len]; exact hk)
  rw [sd_len, perm_sum (sd_perm l)] at h
  omega
theorem rest0 (ms : List Int) : 0 ≤ ms.sum % (ms.length : Int) := by
  cases ms with
  | nil => decide
  | cons a l => exact Int.emod_nonneg _ (by rw [List.length_cons]; omega)
theorem restn (ms : List Int) : min (ms.length : Int) (ms.sum % (ms.length : Int)) = ms.sum % (ms.length : Int) := by
  cases ms with
  | nil => decide
  | cons a l => exact Int.min_eq_right (Int.le_of_lt (Int.emod_lt_of_pos _ (by rw [List.length_cons]; omega)))
theorem spread_level' (ms : List Int) : spread (level ms.length ms.sum) = ms.sum % (ms.length : Int) * ((ms.length : Int) - ms.sum % (ms.length : Int)) := by
  cases ms with
  | nil => decide
  | cons a l => exact spread_level (by rw [List.length_cons]; omega)
/-- one more that holds more than the last -/
theorem more_step {ms : List Int} {i : Nat} (hi : i < ms.length) : min (i : Int) (ms.sum % (ms.length : Int)) + (if decide (lv ms.length ms.sum (ms.length - 1) < lv ms.length ms.sum i) = true then 1 else 0) = min ((i + 1 : Nat) : Int) (ms.sum % (ms.length : Int)) := by
  have h1 := Int.emod_lt_of_pos ms.sum (show 0 < (ms.length : Int) by omega)
  have h0 := rest0 ms
  unfold lv
  rw [if_neg (show ¬ ((ms.length - 1 : Nat) : Int) < ms.sum % (ms.length : Int) by omega)]
  by_cases c : (i : Int) < ms.sum % (ms.length : Int)
  · rw [if_pos c, decide_eq_true (by omega), if_pos rfl]
    omega
  · rw [if_neg c, decide_eq_false (by omega), if_neg Bool.false_ne_true]
    omega
end Pm

set_option Elab.async false
set_option linter.all false
set_option maxRecDepth 100000
set_option maxHeartbeats 4000000
namespace K04
open PySem PySem.Spec PyProof.Rows L2 Evl Px
def topS (i : Nat) : Stmt := PySem.Challenge.pw_pursewise_k04_level.main.body.getD i (.Pass ⟨0, 0, 0, 0⟩)
abbrev s_tops : Stmt := topS 1
abbrev n_tops : List Str := ["row", "found", "total", "held"]
theorem sc_tops : FnScope n_tops ["row"] (defScope s_tops) := ⟨rfl, rfl, rfl, by decide +kernel, rfl, by decide +kernel, by decide +kernel⟩
abbrev s_spread : Stmt := topS 2
abbrev n_spread : List Str := ["row", "squares", "held", "together"]
theorem sc_spread : FnScope n_spread ["row"] (defScope s_spread) := ⟨rfl, rfl, rfl, by decide +kernel, rfl, by decide +kernel, by decide +kernel⟩
abbrev s_level : Stmt := topS 3
abbrev n_level : List Str := ["row", "many", "share", "rest", "k"]
theorem sc_level : FnScope n_level ["row"] (defScope s_level) := ⟨rfl, rfl, rfl, by decide +kernel, rfl, by decide +kernel, by decide +kernel⟩
abbrev s_Lcell_at : Stmt := topS 5
abbrev n_Lcell_at : List Str := ["_law_script", "_law_k"]
theorem sc_Lcell_at : FnScope n_Lcell_at ["_law_script", "_law_k"] (defScope s_Lcell_at) := ⟨rfl, rfl, rfl, by decide +kernel, rfl, by decide +kernel, by decide +kernel⟩
abbrev s_Lmixed : Stmt := topS 6
abbrev n_Lmixed : List Str := ["_law_script", "_law_k", "_law_number"]
theorem sc_Lmixed : FnScope n_Lmixed ["_law_script", "_law_k"] (defScope s_Lmixed) := ⟨rfl, rfl, rfl, by decide +kernel, rfl, by decide +kernel, by decide +kernel⟩
abbrev s_Lwithin : Stmt := topS 7
abbrev n_Lwithin : List Str := ["_law_number"]
theorem sc_Lwithin : FnScope n_Lwithin ["_law_number"] (defScope s_Lwithin) := ⟨rfl, rfl, rfl, by decide +kernel, rfl, by decide +kernel, by decide +kernel⟩
abbrev s_Lpurse : Stmt := topS 8
abbrev n_Lpurse : List Str := ["_law_cell", "_law_kind", "_law_row_here"]
theorem sc_Lpurse : FnScope n_Lpurse ["_law_cell", "_law_kind", "_law_row_here"] (defScope s_Lpurse) := ⟨rfl, rfl, rfl, by decide +kernel, rfl, by decide +kernel, by decide +kernel⟩
abbrev s_Lrow : Stmt := topS 9
abbrev n_Lrow : List Str := ["_law_script", "_law_first", "_law_many", "_law_row_here", "_law_k"]
theorem sc_Lrow : FnScope n_Lrow ["_law_script"] (defScope s_Lrow) := ⟨rfl, rfl, rfl, by decide +kernel, rfl, by decide +kernel, by decide +kernel⟩
abbrev s_Lwholes : Stmt := topS 10
abbrev n_Lwholes : List Str := ["_law_found", "_law_many", "_law_one"]
theorem sc_Lwholes : FnScope n_Lwholes ["_law_found", "_law_many"] (defScope s_Lwholes) := ⟨rfl, rfl, rfl, by decide +kernel, rfl, by decide +kernel, by decide +kernel⟩
abbrev s_Lpairs : Stmt := topS 11
abbrev n_Lpairs : List Str := ["_law_row_here", "_law_total", "_law_k", "_law_other"]
theorem sc_Lpairs : FnScope n_Lpairs ["_law_row_here"] (defScope s_Lpairs) := ⟨rfl, rfl, rfl, by decide +kernel, rfl, by decide +kernel, by decide +kernel⟩
abbrev s_Lis_level : Stmt := topS 12
abbrev n_Lis_level : List Str := ["_law_found", "_law_row_here", "_law_k"]
theorem sc_Lis_level : FnScope n_Lis_level ["_law_found", "_law_row_here"] (defScope s_Lis_level) := ⟨rfl, rfl, rfl, by decide +kernel, rfl, by decide +kernel, by decide +kernel⟩
abbrev s_Lbelow : Stmt := topS 13
abbrev n_Lbelow : List Str := ["_law_low", "_law_high", "_law_many", "_law_less", "_law_more"]
theorem sc_Lbelow : FnScope n_Lbelow ["_law_low", "_law_high", "_law_many"] (defScope s_Lbelow) := ⟨rfl, rfl, rfl, by decide +kernel, rfl, by decide +kernel, by decide +kernel⟩
abbrev s_law : Stmt := topS 14
abbrev n_law : List Str := ["_law_script", "_law_row_here", "_law_handed", "_law_found", "_law_size", "_law_kept", "_law_more", "_law_one", "_law_least"]
theorem sc_law : FnScope n_law ["_law_script"] (defScope s_law) := ⟨rfl, rfl, rfl, by decide +kernel, rfl, by decide +kernel, by decide +kernel⟩
/-- built-in names that are still so -/
structure Bl (mg : Str → Option Value) : Prop where
  bool_ : mg "bool" = none
  divmod_ : mg "divmod" = none
  int_ : mg "int" = none
  isinstance_ : mg "isinstance" = none
  len_ : mg "len" = none
  list_ : mg "list" = none
  range_ : mg "range" = none
  sorted_ : mg "sorted" = none
  sum_ : mg "sum" = none
  zip_ : mg "zip" = none
/-! ### the script's cells -/
def cellAt (ns : List Int) (k : Int) : Int := if k < (ns.length : Int) then ns.getD k.toNat 0 else 0
def AllBd (n : Nat) (ns : List Int) : Prop := ∀ z ∈ ns, Bd n z
theorem bd0 (n : Nat) : Bd n 0 := Nat.pow_pos (by decide)
theorem AllBd.get {n : Nat} {ns : List Int} (h : AllBd n ns) (k : Nat) : Bd n (ns.getD k 0) := by
  rw [List.getD_eq_getElem?_getD]
  cases e : ns[k]? with
  | none => exact bd0 n
  | some z => exact h z (List.mem_of_getElem? e)
theorem AllBd.mono {n m : Nat} {ns : List Int} (h : AllBd n ns) (k : n ≤ m) : AllBd m ns := fun z hz => (h z hz).mono k
theorem AllBd.snoc {n : Nat} {ns : List Int} {z : Int} (h : AllBd n ns) (hz : Bd n z) : AllBd n (ns ++ [z]) := fun y hy => by
  rcases List.mem_append.mp hy with h1 | h1
  · exact h y h1
  · rw [List.mem_singleton.mp h1]
    exact hz
theorem AllBd.cell {n : Nat} {ns : List Int} (h : AllBd n ns) (k : Int) : Bd n (cellAt ns k) := by
  unfold cellAt
  split
  · exact h.get _
  · exact bd0 n
theorem at_getD {ns : List Int} {k : Int} (h0 : 0 ≤ k) (h : k < (ns.length : Int)) : atI (ns.map V.int) k = some (.int (ns.getD k.toNat 0)) := by
  have hk : k.toNat < ns.length := by omega
  have e : k = (k.toNat : Int) := by omega
  rw [e]
  exact Pm.atI_map (by rw [List.getD_eq_getElem?_getD, Int.toNat_natCast, List.getElem?_eq_getElem hk]; rfl)
/-- the script's k-th cell, or nought -/
def spLcell_at (K : PySem.W.Frag) : Sp := fun vs H Q _ => ∃ (a : Addr) (ns : List Int) (k : Int), vs = [.ref a, .int k] ∧ SqL K H a (ns.map V.int) ∧ 0 ≤ k ∧ KQ Q (.int (cellAt ns k)) H
theorem k_Lcell_at {K : PySem.W.Frag} {H : Hp} {P : V → Hp → Prop} {a : Addr} {ns : List Int} {k : Int} (h : SqL K H a (ns.map V.int)) (h0 : 0 ≤ k) (hp : P (.int (cellAt ns k)) H) : SpK (spLcell_at K) [.ref a, .int k] H P := fun _ H1 e Q q =>
  ⟨a, ns, k, rfl, ex_l e h, h0, fun H2 e2 => q _ _ ⟨H, e.trans e2, hp⟩⟩

/-- sizes -/
local macro_rules | `(tactic| walk_at "bd") => `(tactic| first
  | assumption
  | ((with_reducible refine Bd.add (n := ?n1) (m := ?m1) ?h1 ?h2); (case h1 => walk_at "bd"); (case h2 => walk_at "bd"))
  | ((with_reducible refine Bd.sub (n := ?n1) (m := ?m1) ?h1 ?h2); (case h1 => walk_at "bd"); (case h2 => walk_at "bd"))
  | ((with_reducible refine Bd.mul (n := ?n1) (m := ?m1) ?h1 ?h2); (case h1 => walk_at "bd"); (case h2 => walk_at "bd"))
  | ((with_reducible refine Bd.mod ?h1 ?h2); (case h1 => walk_at "bd"); (case h2 => first | decide | omega))
  | ((with_reducible refine Bd.div ?h1); (case h1 => walk_at "bd"))
  | exact AllBd.get (by assumption) _
  | exact AllBd.cell (by assumption) _
  | exact bd_lit _)
local macro_rules | `(tactic| walk_at "side") => `(tactic| first
  | ((with_reducible refine Bd.mulX (n := ?bn) (m := ?bm) ?b1 ?b2 ?sl); (case b1 => walk_at "bd"); (case b2 => walk_at "bd"); (case sl => decide +kernel))
  | (show (_ : Int) < _; decide)
  | (show (_ : Int) < _ ∧ _; decide)
  | (show (_ : Int) ≤ _ ∧ _; decide)
  | (show (_ : Int) < _; omega)
  | (show (_ : Int) < _ ∧ _; omega))
/-- one step of the calculus, by the head -/
local macro_rules | `(tactic| walk_at "k") => `(tactic| first
  | ((with_reducible refine k_var (v := ?kw) ?kv ?_); (case kv => exact rfl))
  | with_reducible refine k_c ?_
  | with_reducible refine k_op ?_
  | with_reducible refine k_cb ?_
  | with_reducible refine k_cons ?_
  | with_reducible refine k_nil ?_
  | with_reducible refine k_call ?_
  | with_reducible refine r_I0 ?_
  | ((with_reducible refine r_I' ?_ ?rc); (case rc => walk_at "side"))
  | with_reducible refine kt_test ?_
  | with_reducible refine kt_B ?_
  | with_reducible refine kt_or ?_
  | with_reducible refine kt_and ?_
  | with_reducible refine kt_not ?_
  | with_reducible refine k_tup ?_
  | with_reducible refine k_lst ?_
  | with_reducible refine k_ckw ?_
  | with_reducible refine k_bm ?_
  | with_reducible refine k_bm0 ?_
  | with_reducible refine k_sl ?_
  | with_reducible refine k_part ?_
  | with_reducible refine k_nopart ?_
  | with_reducible refine k_un ?_
  | with_reducible refine k_chain ?_
  | with_reducible refine k_andV ?_
  | with_reducible refine k_orV ?_
  | with_reducible refine k_notV ?_
  | with_reducible refine r_neg ?_
  | with_reducible refine r_eqI ?_
  | with_reducible refine r_neI ?_
  | with_reducible refine ⟨_, rfl, ?_⟩)
/-- a statement -/
local macro_rules | `(tactic| walk_at "s") => `(tactic| first
  | with_reducible refine gs_asg ?_
  | with_reducible refine gs_drop ?_
  | with_reducible refine gs_when ?_
  | with_reducible refine gs_if ?_
  | with_reducible refine gs_par ?_
  | with_reducible refine gs_set ?_
  | with_reducible refine g2_asg ?_
  | with_reducible refine g2_drop ?_
  | with_reducible refine g2_next ?_
  | with_reducible refine g2_par ?_
  | with_reducible refine g2_set ?_
  | with_reducible refine g1_asg ?_
  | with_reducible refine g1_drop ?_
  | with_reducible refine g1_ret ?_
  | with_reducible refine g1_if ?_
  | with_reducible refine g1_par ?_
  | with_reducible refine g1_set ?_)
local macro_rules | `(tactic| walk_at "ks") => `(tactic| repeat walk_at "k")

/-! ### promises -/
/-- some whole number, not too long -/
def spLmixed (K : PySem.W.Frag) : Sp := fun vs H Q _ => ∃ (a : Addr) (ns : List Int) (k : Int), vs = [.ref a, .int k] ∧ SqL K H a (ns.map V.int) ∧ AllBd 1048576 ns ∧ 0 ≤ k ∧ Bd 10 k ∧ ∀ z, Bd 1048576 z → KQ Q (.int z) H
theorem k_Lmixed {K : PySem.W.Frag} {H : Hp} {P : V → Hp → Prop} {a : Addr} {ns : List Int} {k : Int} (h : SqL K H a (ns.map V.int)) (hb : AllBd 1048576 ns) (h0 : 0 ≤ k) (hk : Bd 10 k) (hp : ∀ z, Bd 1048576 z → P (.int z) H) : SpK (spLmixed K) [.ref a, .int k] H P := fun _ H1 e Q q =>
  ⟨a, ns, k, rfl, ex_l e h, hb, h0, hk, fun z hz H2 e2 => q _ _ ⟨H, e.trans e2, hp z hz⟩⟩
def spLwithin (K : PySem.W.Frag) : Sp := fun vs H Q _ => ∃ (n : Int), vs = [.int n] ∧ ∀ z, Bd 210 z → KQ Q (.int z) H
theorem k_Lwithin {K : PySem.W.Frag} {H : Hp} {P : V → Hp → Prop} {n : Int} (hp : ∀ z, Bd 210 z → P (.int z) H) : SpK (spLwithin K) [.int n] H P := fun _ H1 e Q q =>
  ⟨n, rfl, fun z hz H2 e2 => q _ _ ⟨H, e.trans e2, hp z hz⟩⟩
def spLpurse (K : PySem.W.Frag) : Sp := fun vs H Q _ => ∃ (c n : Int) (a : Addr) (ns : List Int), vs = [.int c, .int n, .ref a] ∧ Bd 1048576 c ∧ SqL K H a (ns.map V.int) ∧ AllBd 210 ns ∧ ∀ z, Bd 210 z → KQ Q (.int z) H
theorem k_Lpurse {K : PySem.W.Frag} {H : Hp} {P : V → Hp → Prop} {c n : Int} {a : Addr} {ns : List Int} (hc : Bd 1048576 c) (h : SqL K H a (ns.map V.int)) (hb : AllBd 210 ns) (hp : ∀ z, Bd 210 z → P (.int z) H) : SpK (spLpurse K) [.int c, .int n, .ref a] H P := fun _ H1 e Q q =>
  ⟨c, n, a, ns, rfl, hc, ex_l e h, hb, fun z hz H2 e2 => q _ _ ⟨H, e.trans e2, hp z hz⟩⟩
/-- a new row of at most 60 -/
def spLrow (K : PySem.W.Frag) : Sp := fun vs H Q _ => ∃ (a : Addr) (ns : List Int), vs = [.ref a] ∧ SqL K H a (ns.map V.int) ∧ AllBd 1048576 ns ∧ ∀ (ms : List Int) p, ms.length ≤ 60 → AllBd 210 ms → H p = none → KQ Q (.ref p) (upd H p (.lst (ms.map V.int)))
theorem k_Lrow {K : PySem.W.Frag} {H : Hp} {P : V → Hp → Prop} {a : Addr} {ns : List Int} (h : SqL K H a (ns.map V.int)) (hb : AllBd 1048576 ns) (hp : ∀ (ms : List Int) p, ms.length ≤ 60 → AllBd 210 ms → H p = none → P (.ref p) (upd H p (.lst (ms.map V.int)))) : SpK (spLrow K) [.ref a] H P := fun _ H1 e Q q =>
  ⟨a, ns, rfl, ex_l e h, hb, fun ms p hm hb2 np H2 e2 => q _ _ ⟨_, (Ex.updm e).trans e2, hp ms p hm hb2 (fresh_back e np)⟩⟩
def spLwholes (K : PySem.W.Frag) : Sp := fun vs H Q _ => ∃ (a : Addr) (ns : List Int), vs = [.ref a, .int (ns.length : Int)] ∧ H a = some (.lst (ns.map V.int)) ∧ KQ Q (.bl true) H
theorem k_Lwholes {K : PySem.W.Frag} {H : Hp} {P : V → Hp → Prop} {a : Addr} {ns : List Int} {m : Int} (hm : m = (ns.length : Int)) (h : H a = some (.lst (ns.map V.int))) (hp : P (.bl true) H) : SpK (spLwholes K) [.ref a, .int m] H P := fun _ H1 e Q q => by
  subst hm
  exact ⟨a, ns, rfl, e _ _ h, fun H2 e2 => q _ _ ⟨H, e.trans e2, hp⟩⟩
def spTops (K : PySem.W.Frag) : Sp := fun vs H Q _ => ∃ (a : Addr) (ns : List Int), vs = [.ref a] ∧ SqL K H a (ns.map V.int) ∧ ns.length ≤ 1000 ∧ ∀ p, H p = none → KQ Q (.ref p) (upd H p (.lst ((Pm.tops ns).map V.int)))
theorem k_tops {K : PySem.W.Frag} {H : Hp} {P : V → Hp → Prop} {a : Addr} {ns : List Int} (h : SqL K H a (ns.map V.int)) (hl : ns.length ≤ 1000) (hp : ∀ p, H p = none → P (.ref p) (upd H p (.lst ((Pm.tops ns).map V.int)))) : SpK (spTops K) [.ref a] H P := fun _ H1 e Q q =>
  ⟨a, ns, rfl, ex_l e h, hl, fun p np H2 e2 => q _ _ ⟨_, (Ex.updm e).trans e2, hp p (fresh_back e np)⟩⟩

def spspread (K : PySem.W.Frag) : Sp := fun vs H Q _ => ∃ (a : Addr) (ns : List Int), vs = [.ref a] ∧ SqL K H a (ns.map V.int) ∧ ns.length ≤ 100 ∧ AllBd 300 ns ∧ KQ Q (.int (Pm.spread ns)) H
theorem k_spread {K : PySem.W.Frag} {H : Hp} {P : V → Hp → Prop} {a : Addr} {ns : List Int} (h : SqL K H a (ns.map V.int)) (hl : ns.length ≤ 100) (hb : AllBd 300 ns) (hp : P (.int (Pm.spread ns)) H) : SpK (spspread K) [.ref a] H P := fun _ H1 e Q q =>
  ⟨a, ns, rfl, ex_l e h, hl, hb, fun H2 e2 => q _ _ ⟨H, e.trans e2, hp⟩⟩
def splevel (K : PySem.W.Frag) : Sp := fun vs H Q _ => ∃ (a : Addr) (ns : List Int), vs = [.ref a] ∧ SqL K H a (ns.map V.int) ∧ ns.length ≤ 100 ∧ ∀ p, H p = none → KQ Q (.ref p) (upd H p (.lst ((Pm.level ns.length ns.sum).map V.int)))
theorem k_level {K : PySem.W.Frag} {H : Hp} {P : V → Hp → Prop} {a : Addr} {ns : List Int} (h : SqL K H a (ns.map V.int)) (hl : ns.length ≤ 100) (hp : ∀ p, H p = none → P (.ref p) (upd H p (.lst ((Pm.level ns.length ns.sum).map V.int)))) : SpK (splevel K) [.ref a] H P := fun _ H1 e Q q =>
  ⟨a, ns, rfl, ex_l e h, hl, fun p np H2 e2 => q _ _ ⟨_, (Ex.updm e).trans e2, hp p (fresh_back e np)⟩⟩
def spLpairs (K : PySem.W.Frag) : Sp := fun vs H Q _ => ∃ (a : Addr) (ns : List Int), vs = [.ref a] ∧ SqL K H a (ns.map V.int) ∧ ns.length ≤ 100 ∧ AllBd 210 ns ∧ KQ Q (.int (Pm.spread ns)) H
theorem k_Lpairs {K : PySem.W.Frag} {H : Hp} {P : V → Hp → Prop} {a : Addr} {ns : List Int} (h : SqL K H a (ns.map V.int)) (hl : ns.length ≤ 100) (hb : AllBd 210 ns) (hp : P (.int (Pm.spread ns)) H) : SpK (spLpairs K) [.ref a] H P := fun _ H1 e Q q =>
  ⟨a, ns, rfl, ex_l e h, hl, hb, fun H2 e2 => q _ _ ⟨H, e.trans e2, hp⟩⟩
/-- as many, as much together, none above the one ahead, the first at most one above the last -/
structure IsLv (fs ns : List Int) : Prop where
  len : fs.length = ns.length
  sum : fs.sum = ns.sum
  down : ∀ i, i + 1 < fs.length → fs.getD (i + 1) 0 ≤ fs.getD i 0
  flat : 0 < fs.length → fs.getD 0 0 - fs.getD (fs.length - 1) 0 ≤ 1
def spLis_level (K : PySem.W.Frag) : Sp := fun vs H Q _ => ∃ (a b : Addr) (fs ns : List Int), vs = [.ref a, .ref b] ∧ H a = some (.lst (fs.map V.int)) ∧ SqL K H b (ns.map V.int) ∧ fs.length ≤ 100 ∧ IsLv fs ns ∧ KQ Q (.bl true) H
theorem k_Lis_level {K : PySem.W.Frag} {H : Hp} {P : V → Hp → Prop} {a b : Addr} {fs ns : List Int} (h : H a = some (.lst (fs.map V.int))) (h2 : SqL K H b (ns.map V.int)) (hl : fs.length ≤ 100) (hv : IsLv fs ns) (hp : P (.bl true) H) : SpK (spLis_level K) [.ref a, .ref b] H P := fun _ H1 e Q q =>
  ⟨a, b, fs, ns, rfl, e _ _ h, ex_l e h2, hl, hv, fun H2 e2 => q _ _ ⟨H, e.trans e2, hp⟩⟩
def spLbelow (K : PySem.W.Frag) : Sp := fun vs H Q _ => ∃ (a b : Addr) (xs ys : List Int), vs = [.ref a, .ref b, .int (xs.length : Int)] ∧ H a = some (.lst (xs.map V.int)) ∧ H b = some (.lst (ys.map V.int)) ∧ ys.length = xs.length ∧ (∀ (i : Nat) x y, xs[i]? = some x → ys[i]? = some y → x ≤ y) ∧ KQ Q (.bl true) H
theorem k_Lbelow {K : PySem.W.Frag} {H : Hp} {P : V → Hp → Prop} {a b : Addr} {xs ys : List Int} {m : Int} (hm : m = (xs.length : Int)) (h : H a = some (.lst (xs.map V.int))) (h2 : H b = some (.lst (ys.map V.int))) (hl : ys.length = xs.length) (hv : ∀ (i : Nat) x y, xs[i]? = some x → ys[i]? = some y → x ≤ y) (hp : P (.bl true) H) : SpK (spLbelow K) [.ref a, .ref b, .int m] H P := fun _ H1 e Q q => by
  subst hm
  exact ⟨a, b, xs, ys, rfl, e _ _ h, e _ _ h2, hl, hv, fun H2 e2 => q _ _ ⟨H, e.trans e2, hp⟩⟩
theorem Pm_isLv (ms : List Int) : IsLv (Pm.level ms.length ms.sum) ms where
  len := Pm.level_len _ _
  sum := by
    by_cases h : 0 < ms.length
    · exact Pm.level_sum h
    · have e : ms = [] := List.eq_nil_of_length_eq_zero (by omega)
      rw [e]
      rfl
  down := fun i hi => by
    rw [Pm.level_len] at hi
    have g1 := Pm.level_at (s := ms.sum) hi
    have g0 := Pm.level_at (s := ms.sum) (show i < ms.length by omega)
    rw [List.getD_eq_getElem?_getD, List.getD_eq_getElem?_getD, g1, g0]
    exact Pm.lv_mono (Nat.le_succ i)
  flat := fun hi => by
    rw [Pm.level_len] at hi ⊢
    have g1 := Pm.level_at (s := ms.sum) (show ms.length - 1 < ms.length by omega)
    have g0 := Pm.level_at (s := ms.sum) hi
    rw [List.getD_eq_getElem?_getD, List.getD_eq_getElem?_getD, g1, g0]
    show Pm.lv ms.length ms.sum 0 - Pm.lv ms.length ms.sum (ms.length - 1) ≤ 1
    unfold Pm.lv
    split <;> split <;> omega
def spLaw (K : PySem.W.Frag) : Sp := fun vs H Q _ => ∃ (a : Addr) (ns : List Int), vs = [.ref a] ∧ SqL K H a (ns.map V.int) ∧ ns.length ≤ 63 ∧ (∀ z ∈ ns, Builtin.Int.intBits z ≤ 1048576) ∧ ∀ H', Q (.bl true) H'

section
variable {P : Program} {w : World} {K : PySem.W.Frag} {mg : Str → Option Value} {base : Heap}
theorem ok_Lcell_at {f : Addr} {fd : FuncData} (F : Fun K "_law_cell_at" "_law_cell_at" s_Lcell_at f fd) (B : Bl mg) : FnOk P w K mg base CX0 1 f fd ["_law_script", "_law_k"] (spLcell_at K) := by
  refine F.ok sc_Lcell_at (fun vs H Q E h => ?_) (fun cdv A outer s H vs Q E hr h => ?_)
  · obtain ⟨a, ns, k, rfl, _⟩ := h
    rfl
  · obtain ⟨a, ns, k, rfl, hS, h0, q⟩ := h
    refine ⟨_, (pss_cons (ps_if (pt_cmpR op_lt (pv 1) (pe_callB (bLen (K := K)) (by rfl) B.len_ boot_len (pa_cons (pv 0) pa_nil)) (nomark _)) (pss_one (ps_ret (pe_ix (ixl (K := K)) (pv 0) (pv 1) (fun _ _ => rfl)))) pss_nil)
      (pss_one (ps_ret pe_int))), Go.here ?_⟩
    walk_at "s"; walk_at "ks"
    refine c_len hS ?_
    walk_at "ks"
    rw [List.length_map]
    refine ⟨fun hb => ?_, fun hb => ?_⟩
    · walk_at "s"; walk_at "ks"
      have hb' := of_decide_eq_true hb
      refine r_ixL hS (at_getD h0 hb') ?_
      unfold cellAt at q
      rw [if_pos hb'] at q
      exact q
    · walk_at "s"; walk_at "ks"
      unfold cellAt at q
      rw [if_neg (of_decide_eq_false hb)] at q
      exact q

theorem ok_Lmixed {f : Addr} {fd : FuncData} (F : Fun K "_law_mixed" "_law_mixed" s_Lmixed f fd) (B : Bl mg) : FnOk P w K mg base CX0 1 f fd ["_law_script", "_law_k"] (spLmixed K) := by
  refine F.ok sc_Lmixed (fun vs H Q E h => ?_) (fun cdv A outer s H vs Q E hr h => ?_)
  · obtain ⟨a, ns, k, rfl, _⟩ := h
    rfl
  · obtain ⟨a, ns, k, rfl, hS, hB, h0, hk, q⟩ := h
    refine ⟨_, (pss_cons (ps_if (pt_cmpR op_lt (pe_op op_add pe_int (pv 1)) (pe_callB (bLen (K := K)) (by rfl) B.len_ boot_len (pa_cons (pv 0) pa_nil)) (nomark _)) (pss_one (ps_ret (pe_ix (ixl (K := K)) (pv 0) (pe_op op_add pe_int (pv 1)) (fun _ _ => rfl)))) pss_nil)
      (pss_cons (ps_set (i := 2) sc_Lmixed.nd rfl (Or.inl rfl) (pe_op op_add (pe_op op_add (pe_op op_mulX (pe_op op_mulX pe_int (pv 1)) (pv 1)) (pe_op op_mulX pe_int (pv 1))) pe_int))
      (pss_cons (ps_if (pt_cmpR op_gt (pe_callB (bLen (K := K)) (by rfl) B.len_ boot_len (pa_cons (pv 0) pa_nil)) pe_int (nomark _)) (pss_one (ps_set (i := 2) sc_Lmixed.nd rfl (Or.inl rfl) (pe_op op_add (pv 2) (pe_op op_mulX (pe_op op_mod (pe_ix (ixl (K := K)) (pv 0) (pe_op op_mod (pe_op op_mulX pe_int (pv 1)) (pe_callB (bLen (K := K)) (by rfl) B.len_ boot_len (pa_cons (pv 0) pa_nil))) (fun _ _ => rfl)) (pe_op op_pow pe_int pe_int)) (pe_op op_add pe_int (pv 1)))))) pss_nil)
      (pss_one (ps_ret (pe_op op_mulX (pv 2) (pv 2))))))), Go.here ?_⟩
    walk_at "s"; walk_at "ks"
    refine c_len hS ?_
    walk_at "ks"
    rw [List.length_map]
    refine ⟨fun hb => ?_, fun hb => ?_⟩
    · walk_at "s"; walk_at "ks"
      have hb' := of_decide_eq_true hb
      refine r_ixL hS (at_getD (by omega) hb') ?_
      exact q _ (hB.get _)
    · walk_at "s"; walk_at "ks"
      walk_at "s"; walk_at "ks"
      refine c_len hS ?_
      walk_at "ks"
      rw [List.length_map]
      refine ⟨fun hb => ?_, fun hb => ?_⟩
      · have hb' := of_decide_eq_true hb
        walk_at "s"; walk_at "ks"
        refine c_len hS ?_
        rw [List.length_map]
        walk_at "ks"
        have m0 := Int.emod_nonneg (7 * k) (show (ns.length : Int) ≠ 0 by omega)
        have m1 := Int.emod_lt_of_pos (7 * k) (show 0 < (ns.length : Int) by omega)
        refine r_ixL hS (at_getD m0 m1) ?_
        walk_at "ks"
        walk_at "s"; walk_at "ks"
        exact q _ (Bd.mono (by walk_at "bd") (by decide +kernel))
      · walk_at "s"; walk_at "ks"
        exact q _ (Bd.mono (by walk_at "bd") (by decide +kernel))

theorem ok_Lwithin {f : Addr} {fd : FuncData} (F : Fun K "_law_within" "_law_within" s_Lwithin f fd) (B : Bl mg) : FnOk P w K mg base CX0 1 f fd ["_law_number"] (spLwithin K) := by
  refine F.ok sc_Lwithin (fun vs H Q E h => ?_) (fun cdv A outer s H vs Q E hr h => ?_)
  · obtain ⟨n, rfl, _⟩ := h
    rfl
  · obtain ⟨n, rfl, q⟩ := h
    refine ⟨_, (pss_one (ps_ret (pe_op op_sub (pe_op op_mod (pe_op op_add (pv 0) (pe_op op_pow pe_int pe_int)) (pe_op op_add (pe_op op_mulX pe_int (pe_op op_pow pe_int pe_int)) pe_int)) (pe_op op_pow pe_int pe_int)))), Go.here ?_⟩
    walk_at "s"; walk_at "ks"
    refine q _ (Bd.mono (n := 205) ?_ (by decide))
    exact Bd.mono (by walk_at "bd") (by decide +kernel)

theorem ok_Lpurse {f : Addr} {fd : FuncData} (F : Fun K "_law_purse" "_law_purse" s_Lpurse f fd) (B : Bl mg) {f_Lwithin : Addr} {fd_Lwithin : FuncData} (c_Lwithin : Cl P w K mg base CX0 1 "_law_within" f_Lwithin fd_Lwithin ["_law_number"] (spLwithin K)) : FnOk P w K mg base CX0 2 f fd ["_law_cell", "_law_kind", "_law_row_here"] (spLpurse K) := by
  refine F.ok sc_Lpurse (fun vs H Q E h => ?_) (fun cdv A outer s H vs Q E hr h => ?_)
  · obtain ⟨c, n, a, ns, rfl, _⟩ := h
    rfl
  · obtain ⟨c, n, a, ns, rfl, hc, hS, hB, q⟩ := h
    refine ⟨_, (pss_cons (ps_if (pt_cmpR op_eq (pv 1) pe_int (nomark _)) (pss_one (ps_ret (pe_call c_Lwithin.ok (hr.mono (by decide)) (by rfl) c_Lwithin.gl c_Lwithin.kp c_Lwithin.bd .nil pass0 (pa_cons (pv 0) pa_nil)))) pss_nil)
      (pss_cons (ps_if (pt_cmpR op_eq (pv 1) pe_int (nomark _)) (pss_one (ps_ret (pe_op op_sub (pe_op op_mod (pv 0) pe_int) pe_int))) pss_nil)
      (pss_cons (ps_if (PW.pt (pw_and (pt_cmpR op_eq (pe_op op_mod (pv 0) pe_int) pe_int (nomark _)) (pw_and1 (pt_cmpR op_gt (pe_callB (bLen (K := K)) (by rfl) B.len_ boot_len (pa_cons (pv 2) pa_nil)) pe_int (nomark _))))) (pss_one (ps_ret (pe_ix (ixl (K := K)) (pv 2) (pe_op op_mod (pe_op op_fdiv (pv 0) pe_int) (pe_callB (bLen (K := K)) (by rfl) B.len_ boot_len (pa_cons (pv 2) pa_nil))) (fun _ _ => rfl)))) pss_nil)
      (pss_one (ps_ret (pe_call c_Lwithin.ok (hr.mono (by decide)) (by rfl) c_Lwithin.gl c_Lwithin.kp c_Lwithin.bd .nil pass0 (pa_cons (pe_op op_mulX (pe_op op_fdiv (pv 0) pe_int) (pe_op op_pow pe_int pe_int)) pa_nil))))))), Go.here ?_⟩
    walk_at "s"; walk_at "ks"
    refine ⟨fun hb => ?_, fun hb => ?_⟩
    · walk_at "s"; walk_at "ks"
      exact k_Lwithin fun z hz => q z hz
    walk_at "s"; walk_at "ks"
    refine ⟨fun hb => ?_, fun hb => ?_⟩
    · walk_at "s"; walk_at "ks"
      exact q _ (Bd.mono (by walk_at "bd") (by decide +kernel))
    refine gs_cut ?_ fun fin => ?_
    · walk_at "s"; walk_at "ks"
      exact k_Lwithin fun z hz => q z hz
    walk_at "s"; walk_at "ks"
    refine ⟨fun hb => ?_, fun hb => ⟨fun hb => Bool.noConfusion hb, fun _ => fin⟩⟩
    walk_at "ks"
    refine c_len hS ?_
    walk_at "ks"
    refine ⟨fun hb => ?_, fun _ => fin⟩
    rw [List.length_map] at hb
    have hb' := of_decide_eq_true hb
    walk_at "s"; walk_at "ks"
    refine c_len hS ?_
    rw [List.length_map]
    walk_at "ks"
    have m0 := Int.emod_nonneg (c / 3) (show (ns.length : Int) ≠ 0 by omega)
    have m1 := Int.emod_lt_of_pos (c / 3) (show 0 < (ns.length : Int) by omega)
    refine r_ixL hS (at_getD m0 m1) ?_
    exact q _ (hB.get _)

theorem ok_Lwholes {f : Addr} {fd : FuncData} (F : Fun K "_law_wholes" "_law_wholes" s_Lwholes f fd) (B : Bl mg) : FnOk P w K mg base CX0 1 f fd ["_law_found", "_law_many"] (spLwholes K) := by
  refine F.ok sc_Lwholes (fun vs H Q E h => ?_) (fun cdv A outer s H vs Q E hr h => ?_)
  · obtain ⟨a, ns, rfl, _⟩ := h
    rfl
  · obtain ⟨a, ns, rfl, hA, q⟩ := h
    refine ⟨_, (pss_cons (ps_if (PW.pt (pw_or (pt_not (pt_val (pe_callB (bIsi (K := K)) (by rfl) B.isinstance_ boot_isinstance (pa_cons (pv 0) (pa_cons (pe_bltn (v := .ty "list") (by rfl) B.list_ boot_list rfl) pa_nil))))) (pw_or1 (pt_cmpR op_ne (pe_callB (bLen (K := K)) (by rfl) B.len_ boot_len (pa_cons (pv 0) pa_nil)) (pv 1) (nomark _))))) (pss_one (ps_ret pe_bl)) pss_nil)
      (pss_cons (ps_for PassesOwn.never rfl (piL (K := K) (pv 0)) (pg_name (i := 2) sc_Lwholes.nd rfl (Or.inl rfl)) (pss_one (ps_if (PW.pt (pw_or (pt_not (pt_val (pe_callB (bIsi (K := K)) (by rfl) B.isinstance_ boot_isinstance (pa_cons (pv 2) (pa_cons (pe_bltn (v := .ty "int") (by rfl) B.int_ boot_int rfl) pa_nil))))) (pw_or1 (pt_val (pe_callB (bIsi (K := K)) (by rfl) B.isinstance_ boot_isinstance (pa_cons (pv 2) (pa_cons (pe_bltn (v := .ty "bool") (by rfl) B.bool_ boot_bool rfl) pa_nil))))))) (pss_one (ps_ret pe_bl)) pss_nil)))
      (pss_one (ps_ret pe_bl)))), Go.here ?_⟩
    walk_at "s"; walk_at "ks"
    refine c_list_list hA ?_
    walk_at "ks"
    refine ⟨fun hb => Bool.noConfusion hb, fun _ => ?_⟩
    walk_at "ks"
    refine c_len (sq_of hA) ?_
    walk_at "ks"
    rw [List.length_map, decide_eq_true rfl]
    refine ⟨fun hb => Bool.noConfusion hb, fun _ => ?_⟩
    refine gs_forL (a := a) (xs := ns.map V.int) (fun i σ' H' => ∃ (v : Option V), σ' = [some (.ref a), some (.int (ns.length : Int)), v] ∧ H' = H) ?_ ?_ ?_ ?_
    · walk_at "ks"
      exact ⟨rfl, sq_of hA, none, rfl, rfl⟩
    · rintro i σ' H' _ ⟨v, _, rfl⟩
      exact sq_of hA
    · rintro i x σ' H' hx ⟨v, rfl, rfl⟩
      obtain ⟨z, _, rfl⟩ := Pm.map_at hx
      walk_at "s"; walk_at "ks"
      refine c_int_int ?_
      walk_at "ks"
      refine ⟨fun hb => Bool.noConfusion hb, fun _ => ?_⟩
      walk_at "ks"
      refine c_int_bool ?_
      walk_at "ks"
      refine ⟨fun hb => Bool.noConfusion hb, fun _ => ?_⟩
      exact g1_next fun H1 e1 => ⟨_, e1, _, rfl, rfl⟩
    · rintro σ' H' ⟨v, rfl, rfl⟩
      walk_at "s"; walk_at "ks"
      exact q

theorem ok_tops {f : Addr} {fd : FuncData} (F : Fun K "tops" "tops" s_tops f fd) (B : Bl mg) : FnOk P w K mg base CX0 1 f fd ["row"] (spTops K) := by
  refine F.ok sc_tops (fun vs H Q E h => ?_) (fun cdv A outer s H vs Q E hr h => ?_)
  · obtain ⟨a, ns, rfl, _⟩ := h
    rfl
  · obtain ⟨a, ns, rfl, hS, hl, q⟩ := h
    refine ⟨_, (pss_cons (ps_set (i := 1) sc_tops.nd rfl (Or.inl rfl) (pe_lst (pa_cons pe_int pa_nil)))
      (pss_cons (ps_set (i := 2) sc_tops.nd rfl (Or.inl rfl) pe_int)
      (pss_cons (ps_for PassesOwn.never rfl (piL (K := K) (pe_callBK (bSrtR (K := K)) (by rfl) B.sorted_ boot_sorted (pa_cons (pv 0) pa_nil) (pk_cons pe_bl pk_nil))) (pg_name (i := 3) sc_tops.nd rfl (Or.inl rfl)) (pss_cons (ps_set (i := 2) sc_tops.nd rfl (Or.inl rfl) (pe_op op_add (pv 2) (pv 3)))
      (pss_one (ps_expr (peBm (K := K) PySem.F.plainAttrs_list PySem.F.slot_list_append PySem.F.type_list_append mt_append (pv 1) (pa_cons (pv 2) pa_nil))))))
      (pss_one (ps_ret (pv 1)))))), Go.here ?_⟩
    walk_at "s"; walk_at "ks"
    refine ⟨(by show 1 ≤ 100000; decide), fun p np => ?_⟩
    walk_at "s"; walk_at "ks"
    have hS2 := sq_up (o := .lst [V.int 0]) hS np
    refine gs_forF ?_
    walk_at "ks"
    refine Pm.c_sortedRev hS2 fun c nc => ?_
    obtain ⟨nc0, ncp⟩ := none_of_up nc
    have hlen : (Pm.sd ns).length = ns.length := Pm.sd_len ns
    refine ⟨c, (Pm.sd ns).map V.int, fun i σ' H' => ∃ (v : Option V), σ' = [some (.ref a), some (.ref p), some (.int ((Pm.sd ns).take i).sum), v] ∧ H' = upd (upd H c (.lst ((Pm.sd ns).map V.int))) p (.lst (((List.range (i + 1)).map fun k => ((Pm.sd ns).take k).sum).map V.int)), rfl, sq_of upd_same, ⟨none, rfl, ?_⟩, ?_, ?_, ?_⟩
    · funext b
      unfold upd
      by_cases h1 : b = p
      · subst h1
        rw [if_neg (Ne.symm ncp), if_pos rfl, if_pos rfl]
        rfl
      · rw [if_neg h1, if_neg h1]
    · rintro i σ' H' _ ⟨v, _, rfl⟩
      exact sq_of (by rw [upd_ne ncp, upd_same])
    · rintro i x σ' H' hx ⟨v, rfl, rfl⟩
      obtain ⟨z, hz, rfl⟩ := Pm.map_at hx
      have hi : i < (Pm.sd ns).length := (List.getElem?_eq_some_iff.mp hz).1
      walk_at "s"; walk_at "ks"
      walk_at "s"; walk_at "ks"
      refine ⟨tyl (sq_of upd_same), ?_⟩
      walk_at "ks"
      refine m_append upd_same (by rw [List.length_map, List.length_map, List.length_range]; omega) fun H1 e1 => ⟨_, e1, some (.int z), ?_, ?_⟩
      · rw [Pm.sum_take hz]
        rfl
      · rw [upd_upd, List.range_succ (n := i + 1), List.map_append, List.map_append]
        show _ = upd _ p (.lst (_ ++ [V.int ((Pm.sd ns).take (i + 1)).sum]))
        rw [Pm.sum_take hz]
    · rintro σ' H' ⟨v, rfl, rfl⟩
      walk_at "s"; walk_at "ks"
      rw [List.length_map]
      exact (q p np).up (Ex.updm (Ex.new nc0))

theorem ok_Lrow {f : Addr} {fd : FuncData} (F : Fun K "_law_row" "_law_row" s_Lrow f fd) (B : Bl mg) {f_Lcell_at : Addr} {fd_Lcell_at : FuncData} (c_Lcell_at : Cl P w K mg base CX0 1 "_law_cell_at" f_Lcell_at fd_Lcell_at ["_law_script", "_law_k"] (spLcell_at K)) {f_Lmixed : Addr} {fd_Lmixed : FuncData} (c_Lmixed : Cl P w K mg base CX0 1 "_law_mixed" f_Lmixed fd_Lmixed ["_law_script", "_law_k"] (spLmixed K)) {f_Lpurse : Addr} {fd_Lpurse : FuncData} (c_Lpurse : Cl P w K mg base CX0 2 "_law_purse" f_Lpurse fd_Lpurse ["_law_cell", "_law_kind", "_law_row_here"] (spLpurse K)) : FnOk P w K mg base CX0 3 f fd ["_law_script"] (spLrow K) := by
  refine F.ok sc_Lrow (fun vs H Q E h => ?_) (fun cdv A outer s H vs Q E hr h => ?_)
  · obtain ⟨a, ns, rfl, _⟩ := h
    rfl
  · obtain ⟨a, ns, rfl, hS, hB, q⟩ := h
    refine ⟨_, (pss_cons (ps_set (i := 1) sc_Lrow.nd rfl (Or.inl rfl) (pe_op op_mod (pe_call c_Lcell_at.ok (hr.mono (by decide)) (by rfl) c_Lcell_at.gl c_Lcell_at.kp c_Lcell_at.bd .nil pass0 (pa_cons (pv 0) (pa_cons pe_int pa_nil))) (pe_op op_pow pe_int pe_int)))
      (pss_cons (ps_set (i := 2) sc_Lrow.nd rfl (Or.inl rfl) (pe_op op_mod (pe_op op_fdiv (pv 1) pe_int) pe_int))
      (Evl.pss_cut (ps_if (pt_cmpR op_eq (pe_op op_mod (pe_op op_fdiv (pv 1) pe_int) pe_int) pe_int (nomark _)) (pss_one (ps_set (i := 2) sc_Lrow.nd rfl (Or.inl rfl) (pe_op op_mod (pe_op op_fdiv (pv 1) pe_int) pe_int))) pss_nil)
      (pss_cons (ps_set (i := 3) sc_Lrow.nd rfl (Or.inl rfl) (pe_lst pa_nil))
      (pss_cons (ps_for PassesOwn.never rfl (pi_range1 (by rfl) B.range_ (pa_cons (pv 2) pa_nil)) (pg_name (i := 4) sc_Lrow.nd rfl (Or.inl rfl)) (pss_one (ps_expr (peBm (K := K) PySem.F.plainAttrs_list PySem.F.slot_list_append PySem.F.type_list_append mt_append (pv 3) (pa_cons (pe_call c_Lpurse.ok (hr.mono (by decide)) (by rfl) c_Lpurse.gl c_Lpurse.kp c_Lpurse.bd .nil pass0 (pa_cons (pe_call c_Lmixed.ok (hr.mono (by decide)) (by rfl) c_Lmixed.gl c_Lmixed.kp c_Lmixed.bd .nil pass0 (pa_cons (pv 0) (pa_cons (pv 4) pa_nil))) (pa_cons (pe_op op_mod (pv 1) pe_int) (pa_cons (pv 3) pa_nil)))) pa_nil)))))
      (pss_one (ps_ret (pv 3)))))))), Go.here ?_⟩
    walk_at "s"; walk_at "ks"
    refine k_Lcell_at hS (by decide) ?_
    walk_at "ks"
    generalize cellAt ns 0 % 10 ^ Int.toNat 9 = c
    walk_at "s"; walk_at "ks"
    have m0 := Int.emod_nonneg (c / 3) (show (14 : Int) ≠ 0 by decide)
    have m1 := Int.emod_lt_of_pos (c / 3) (show (0 : Int) < 14 by decide)
    have m2 := Int.emod_nonneg (c / 210) (show (61 : Int) ≠ 0 by decide)
    have m3 := Int.emod_lt_of_pos (c / 210) (show (0 : Int) < 61 by decide)
    refine gs_mid (fun σ' H' => ∃ m : Int, 0 ≤ m ∧ m ≤ 60 ∧ σ' = [some (.ref a), some (.int c), some (.int m), none, none] ∧ H = H') ?_ ?_
    · walk_at "s"; walk_at "ks"
      refine ⟨fun _ => ?_, fun _ => ?_⟩
      · walk_at "s"; walk_at "ks"
        exact fun H1 e1 => ⟨_, e1, _, m2, by omega, rfl, rfl⟩
      · exact g1_next fun H1 e1 => ⟨_, e1, _, m0, by omega, rfl, rfl⟩
    rintro σ' H' ⟨m, n0, n1, rfl, rfl⟩
    walk_at "s"; walk_at "ks"
    refine ⟨by decide, fun p np => ?_⟩
    refine gs_forR (n := m) (fun i σ' H' => ∃ (v : Option V) (ms : List Int), AllBd 210 ms ∧ σ' = [some (.ref a), some (.int c), some (.int m), some (.ref p), v] ∧ ms.length = i ∧ H' = upd H p (.lst (ms.map V.int))) ?_ ?_ ?_
    · walk_at "ks"
      exact ⟨rfl, by omega, n0, none, [], (fun _ h => nomatch h), rfl, rfl, rfl⟩
    · rintro i σ' H' hi ⟨v, ms, hms, rfl, rfl, rfl⟩
      have hS2 := sq_up (o := .lst (ms.map V.int)) hS np
      walk_at "s"; walk_at "ks"
      refine ⟨tyl (sq_of upd_same), ?_⟩
      walk_at "ks"
      refine k_Lmixed hS2 hB (by omega) (by unfold Bd; omega) fun z hz => ?_
      walk_at "ks"
      refine k_Lpurse hz (sq_of upd_same) hms fun y hy => ?_
      walk_at "ks"
      refine m_append upd_same (by rw [List.length_map]; omega) fun H1 e1 => ⟨_, e1, _, ms ++ [y], hms.snoc hy, rfl, by rw [List.length_append]; rfl, ?_⟩
      rw [upd_upd, List.map_append]
      rfl
    · rintro σ' H' ⟨v, ms, hms, rfl, hm, rfl⟩
      walk_at "s"; walk_at "ks"
      exact q ms p (by omega) hms np
theorem ok_spread {f : Addr} {fd : FuncData} (F : Fun K "spread" "spread" s_spread f fd) (B : Bl mg) : FnOk P w K mg base CX0 1 f fd ["row"] (spspread K) := by
  refine F.ok sc_spread (fun vs H Q E h => ?_) (fun cdv A outer s H vs Q E hr h => ?_)
  · obtain ⟨a, ns, rfl, _⟩ := h
    rfl
  · obtain ⟨a, ns, rfl, hS, hl, hB, q⟩ := h
    refine ⟨_, (pss_cons (ps_set (i := 1) sc_spread.nd rfl (Or.inl rfl) pe_int)
      (pss_cons (ps_for PassesOwn.never rfl (piL (K := K) (pv 0)) (pg_name (i := 2) sc_spread.nd rfl (Or.inl rfl)) (pss_one (ps_set (i := 1) sc_spread.nd rfl (Or.inl rfl) (pe_op op_add (pv 1) (pe_op op_mulX (pv 2) (pv 2))))))
      (pss_cons (ps_set (i := 3) sc_spread.nd rfl (Or.inl rfl) (pe_callB (bSum (K := K) rfl) (by rfl) B.sum_ boot_sum (pa_cons (pv 0) pa_nil)))
      (pss_one (ps_ret (pe_op op_sub (pe_op op_mulX (pe_callB (bLen (K := K)) (by rfl) B.len_ boot_len (pa_cons (pv 0) pa_nil)) (pv 1)) (pe_op op_mulX (pv 3) (pv 3)))))))), Go.here ?_⟩
    walk_at "s"; walk_at "ks"
    refine gs_forL (a := a) (xs := ns.map V.int) (fun i σ' H' => ∃ (v : Option V), σ' = [some (.ref a), some (.int (Pm.sq (ns.take i))), v, none] ∧ H' = H) ?_ ?_ ?_ ?_
    · walk_at "ks"
      exact ⟨rfl, hS, none, rfl, rfl⟩
    · rintro i σ' H' _ ⟨v, _, rfl⟩
      exact hS
    · rintro i x σ' H' hx ⟨v, rfl, rfl⟩
      obtain ⟨z, hz, rfl⟩ := Pm.map_at hx
      have bz : Bd 300 z := hB z (List.mem_of_getElem? hz)
      walk_at "s"; walk_at "ks"
      refine fun H1 e1 => ⟨_, e1, some (.int z), ?_, rfl⟩
      rw [Pm.sq_take hz]
      rfl
    · rintro σ' H' ⟨v, rfl, rfl⟩
      rw [List.length_map, List.take_length]
      walk_at "s"; walk_at "ks"
      refine c_sum hS ?_
      have b1 : Bd 307 ns.sum := Pm.sum_bd hB hl
      have b2 : Bd 607 (Pm.sq ns) := Pm.sq_bd hB hl
      have b3 : Bd 7 ((ns.length : Nat) : Int) := by unfold Bd; omega
      walk_at "s"; walk_at "ks"
      refine c_len hS ?_
      rw [List.length_map]
      walk_at "ks"
      exact q
theorem ok_level {f : Addr} {fd : FuncData} (F : Fun K "level" "level" s_level f fd) (B : Bl mg) : FnOk P w K mg base CX0 1 f fd ["row"] (splevel K) := by
  refine F.ok sc_level (fun vs H Q E h => ?_) (fun cdv A outer s H vs Q E hr h => ?_)
  · obtain ⟨a, ns, rfl, _⟩ := h
    rfl
  · obtain ⟨a, ns, rfl, hS, hl, q⟩ := h
    refine ⟨_, (pss_cons (ps_set (i := 1) sc_level.nd rfl (Or.inl rfl) (pe_callB (bLen (K := K)) (by rfl) B.len_ boot_len (pa_cons (pv 0) pa_nil)))
      (pss_cons (ps_if (pt_cmpR op_eq (pv 1) pe_int (nomark _)) (pss_one (ps_ret (pe_lst pa_nil))) pss_nil)
      (pss_cons (ps_asg (pe_callB call_divmod (by rfl) B.divmod_ boot_divmod (pa_cons (pe_callB (bSum (K := K) rfl) (by rfl) B.sum_ boot_sum (pa_cons (pv 0) pa_nil)) (pa_cons (pv 1) pa_nil))) (pgT (K := K) rfl (pgs_cons (pg_name (i := 2) sc_level.nd rfl (Or.inr rfl)) (pgs_cons (pg_name (i := 3) sc_level.nd rfl (Or.inr rfl)) pgs_nil))))
      (pss_one (ps_ret (pe_lc (own := [("k", 4)]) (g := gName 4) (tt := tYes) rfl sc_level.nd (pi_range1 (by rfl) B.range_ (pa_cons (pv 1) pa_nil)) (blkOk_by (own := [("k", 4)]) (N := n_level) (sc := defScope s_level) (by decide +kernel)) (fun _ _ _ _ _ => pg_name (i := 4) sc_level.nd rfl (Or.inl rfl)) (fun _ _ _ _ _ => pts_nil) (fun _ _ _ _ _ => (pe_op op_add (pv 2) (pe_callTy call_int1 (by rfl) B.int_ boot_int (pa_cons (pe_cmpR op_lt (pv 4) (pv 3) (nomark _)) pa_nil)))))))))), Go.here ?_⟩
    walk_at "s"; walk_at "ks"
    refine c_len hS ?_
    rw [List.length_map]
    walk_at "s"; walk_at "ks"
    refine ⟨fun hb => ?_, fun hb => ?_⟩
    · have e0 : ns.length = 0 := by
        have := of_decide_eq_true hb
        omega
      rw [e0] at q
      walk_at "s"; walk_at "ks"
      exact ⟨by decide, fun p np => q p np⟩
    · have hn : ns.length ≠ 0 := fun z => by
        rw [z] at hb
        exact absurd hb (by decide)
      refine gs_asgG ?_
      walk_at "ks"
      refine c_sum hS ?_
      walk_at "ks"
      refine c_divmod ⟨by omega, by omega⟩ fun p np => ?_
      refine gk_tup2 (st_of upd_same) ?_
      refine gk_name (gk_name ?_)
      walk_at "s"
      refine k_lcR (n := (ns.length : Int)) (fun i => .int (Pm.lv ns.length ns.sum i)) ?_
      walk_at "ks"
      refine ⟨rfl, by omega, by omega, fun x => rfl, fun i Hz hi ez => ?_, fun d nd => ?_⟩
      · walk_at "ks"
        refine c_intB ?_
        walk_at "ks"
        refine ⟨?_, rfl⟩
        unfold Pm.lv
        by_cases c : (i : Int) < ns.sum % (ns.length : Int)
        · rw [decide_eq_true c, if_pos c]
          rfl
        · rw [decide_eq_false c, if_neg c]
          rfl
      · have e5 : List.map (fun i => V.int (Pm.lv ns.length ns.sum i)) (List.range ((ns.length : Int)).toNat) = (Pm.level ns.length ns.sum).map V.int := by
          rw [Int.toNat_natCast]
          unfold Pm.level
          rw [List.map_map]
          rfl
        rw [e5]
        exact (q d (none_of_up nd).1).up (Ex.updm (Ex.new np))
theorem ok_Lpairs {f : Addr} {fd : FuncData} (F : Fun K "_law_pairs" "_law_pairs" s_Lpairs f fd) (B : Bl mg) : FnOk P w K mg base CX0 1 f fd ["_law_row_here"] (spLpairs K) := by
  refine F.ok sc_Lpairs (fun vs H Q E h => ?_) (fun cdv A outer s H vs Q E hr h => ?_)
  · obtain ⟨a, ns, rfl, _⟩ := h
    rfl
  · obtain ⟨a, ns, rfl, hS, hl, hB, q⟩ := h
    refine ⟨_, (pss_cons (ps_set (i := 1) sc_Lpairs.nd rfl (Or.inl rfl) pe_int)
      (pss_cons (ps_for PassesOwn.never rfl (pi_range1 (by rfl) B.range_ (pa_cons (pe_callB (bLen (K := K)) (by rfl) B.len_ boot_len (pa_cons (pv 0) pa_nil)) pa_nil)) (pg_name (i := 2) sc_Lpairs.nd rfl (Or.inl rfl)) (pss_one (ps_for PassesOwn.never rfl (piL (K := K) (pe_slice (sll (K := K)) (pv 0) po_none (po_some (pv 2)))) (pg_name (i := 3) sc_Lpairs.nd rfl (Or.inl rfl)) (pss_one (ps_set (i := 1) sc_Lpairs.nd rfl (Or.inl rfl) (pe_op op_add (pv 1) (pe_op op_mulX (pe_op op_sub (pe_ix (ixl (K := K)) (pv 0) (pv 2) (fun _ _ => rfl)) (pv 3)) (pe_op op_sub (pe_ix (ixl (K := K)) (pv 0) (pv 2) (fun _ _ => rfl)) (pv 3)))))))))
      (pss_one (ps_ret (pv 1))))), Go.here ?_⟩
    walk_at "s"; walk_at "ks"
    refine gs_forR (n := (ns.length : Int)) (fun i σ' H' => ∃ (v u : Option V), σ' = [some (.ref a), some (.int (Pm.pairs ns i)), v, u] ∧ Ex H H') ?_ ?_ ?_
    · walk_at "ks"
      refine c_len hS ?_
      rw [List.length_map]
      walk_at "ks"
      exact ⟨rfl, by omega, by omega, none, none, rfl, Ex.refl H⟩
    · rintro i σ' H' hi ⟨v, u, rfl, e0⟩
      have hS2 := ex_l e0 hS
      have hi2 : i < ns.length := by omega
      have gz := Pm.getD_at hi2
      refine g1_forF ?_
      walk_at "ks"
      refine r_slL hS2 fun p np => ?_
      have e6 : cutV (ns.map V.int) none (some (i : Int)) = (ns.take i).map V.int := by
        rw [cut_to (by rw [List.length_map]; omega), List.map_take]
      rw [e6]
      refine ⟨p, (ns.take i).map V.int, fun j σ' H'' => ∃ u, σ' = [some (.ref a), some (.int (Pm.pairs ns i + Pm.dsq (ns.getD i 0) ((ns.take i).take j))), some (.int (i : Int)), u] ∧ H'' = upd H' p (.lst ((ns.take i).map V.int)), rfl, sq_of upd_same, ⟨u, ?_, rfl⟩, ?_, ?_, ?_⟩
      · show _ = [some (V.ref a), some (V.int (Pm.pairs ns i + 0)), some (V.int (i : Int)), u]
        rw [Int.add_zero]
        rfl
      · rintro j σ' H'' _ ⟨u, _, rfl⟩
        exact sq_of upd_same
      · rintro j x σ' H'' hx ⟨u, rfl, rfl⟩
        obtain ⟨y, hy, rfl⟩ := Pm.map_at hx
        have hS3 := sq_up (o := .lst ((ns.take i).map V.int)) hS2 np
        have by1 : Bd 210 y := hB y (List.mem_of_mem_take (List.mem_of_getElem? hy))
        have by2 : Bd 210 (ns.getD i 0) := hB.get i
        walk_at "s"; walk_at "ks"
        refine r_ixL hS3 (Pm.atI_map gz) ?_
        walk_at "ks"
        refine r_ixL hS3 (Pm.atI_map gz) ?_
        walk_at "ks"
        refine fun H1 e1 => ⟨_, e1, some (.int y), ?_, rfl⟩
        rw [Pm.dsq_take hy, ← Int.add_assoc]
        rfl
      · rintro σ' H'' ⟨u, rfl, rfl⟩
        rw [List.length_map, List.take_length]
        exact fun H1 e1 => ⟨_, e1, some (.int (i : Int)), u, rfl, e0.trans (Ex.new np)⟩
    · rintro σ' H' ⟨v, u, rfl, e0⟩
      walk_at "s"; walk_at "ks"
      rw [Int.toNat_natCast, Pm.pairs_all]
      exact q.up e0
theorem ok_Lbelow {f : Addr} {fd : FuncData} (F : Fun K "_law_below" "_law_below" s_Lbelow f fd) (B : Bl mg) {f_Lwholes : Addr} {fd_Lwholes : FuncData} (c_Lwholes : Cl P w K mg base CX0 1 "_law_wholes" f_Lwholes fd_Lwholes ["_law_found", "_law_many"] (spLwholes K)) : FnOk P w K mg base CX0 2 f fd ["_law_low", "_law_high", "_law_many"] (spLbelow K) := by
  refine F.ok sc_Lbelow (fun vs H Q E h => ?_) (fun cdv A outer s H vs Q E hr h => ?_)
  · obtain ⟨a, b, xs, ys, rfl, _⟩ := h
    rfl
  · obtain ⟨a, b, xs, ys, rfl, hA, hB, hl, hv, q⟩ := h
    refine ⟨_, (pss_cons (ps_if (PW.pt (pw_or (pt_not (pt_val (pe_call c_Lwholes.ok (hr.mono (by decide)) (by rfl) c_Lwholes.gl c_Lwholes.kp c_Lwholes.bd .nil pass0 (pa_cons (pv 0) (pa_cons (pv 2) pa_nil))))) (pw_or1 (pt_not (pt_val (pe_call c_Lwholes.ok (hr.mono (by decide)) (by rfl) c_Lwholes.gl c_Lwholes.kp c_Lwholes.bd .nil pass0 (pa_cons (pv 1) (pa_cons (pv 2) pa_nil)))))))) (pss_one (ps_ret pe_bl)) pss_nil)
      (pss_cons (ps_for PassesOwn.never rfl (piZ (K := K) (by rfl) B.zip_ (pa_cons (pv 0) (pa_cons (pv 1) pa_nil))) (pgT (K := K) rfl (pgs_cons (pg_name (i := 3) sc_Lbelow.nd rfl (Or.inl rfl)) (pgs_cons (pg_name (i := 4) sc_Lbelow.nd rfl (Or.inl rfl)) pgs_nil))) (pss_one (ps_if (pt_cmpR op_gt (pv 3) (pv 4) (nomark _)) (pss_one (ps_ret pe_bl)) pss_nil)))
      (pss_one (ps_ret pe_bl)))), Go.here ?_⟩
    walk_at "s"; walk_at "ks"
    refine k_Lwholes rfl hA ?_
    walk_at "ks"
    refine ⟨fun hb => Bool.noConfusion hb, fun _ => ?_⟩
    walk_at "ks"
    refine k_Lwholes (by rw [hl]) hB ?_
    walk_at "ks"
    refine ⟨fun hb => Bool.noConfusion hb, fun _ => ?_⟩
    refine gs_forZ ?_
    walk_at "ks"
    refine ⟨a, b, xs.map V.int, ys.map V.int, fun i σ' H' => ∃ (v u : Option V), σ' = [some (.ref a), some (.ref b), some (.int (xs.length : Int)), v, u] ∧ H = H', rfl, sq_of hA, sq_of hB, by rw [List.length_map, List.length_map, hl], ⟨none, none, rfl, rfl⟩, ?_, ?_, ?_⟩
    · rintro i σ' H' ⟨v, u, _, rfl⟩
      exact ⟨sq_of hA, sq_of hB⟩
    · rintro i x y σ' H' hx hy ⟨v, u, rfl, rfl⟩
      obtain ⟨x, gx, rfl⟩ := Pm.map_at hx
      obtain ⟨y, gy, rfl⟩ := Pm.map_at hy
      refine gk_name (gk_name ?_)
      walk_at "s"; walk_at "ks"
      refine ⟨fun hb => ?_, fun _ => ?_⟩
      · have h1 := of_decide_eq_true hb
        have h2 := hv i x y gx gy
        omega
      · exact g1_next fun H1 e1 => ⟨_, e1, _, _, rfl, rfl⟩
    · rintro σ' H' ⟨v, u, rfl, rfl⟩
      walk_at "s"; walk_at "ks"
      exact q
theorem ok_Lis_level {f : Addr} {fd : FuncData} (F : Fun K "_law_is_level" "_law_is_level" s_Lis_level f fd) (B : Bl mg) {f_Lwholes : Addr} {fd_Lwholes : FuncData} (c_Lwholes : Cl P w K mg base CX0 1 "_law_wholes" f_Lwholes fd_Lwholes ["_law_found", "_law_many"] (spLwholes K)) : FnOk P w K mg base CX0 2 f fd ["_law_found", "_law_row_here"] (spLis_level K) := by
  refine F.ok sc_Lis_level (fun vs H Q E h => ?_) (fun cdv A outer s H vs Q E hr h => ?_)
  · obtain ⟨a, b, fs, ns, rfl, _⟩ := h
    rfl
  · obtain ⟨a, b, fs, ns, rfl, hA, hS, hl, hv, q⟩ := h
    refine ⟨_, (pss_cons (ps_if (PW.pt (pw_or (pt_not (pt_val (pe_call c_Lwholes.ok (hr.mono (by decide)) (by rfl) c_Lwholes.gl c_Lwholes.kp c_Lwholes.bd .nil pass0 (pa_cons (pv 0) (pa_cons (pe_callB (bLen (K := K)) (by rfl) B.len_ boot_len (pa_cons (pv 1) pa_nil)) pa_nil))))) (pw_or1 (pt_cmpR op_ne (pe_callB (bSum (K := K) rfl) (by rfl) B.sum_ boot_sum (pa_cons (pv 0) pa_nil)) (pe_callB (bSum (K := K) rfl) (by rfl) B.sum_ boot_sum (pa_cons (pv 1) pa_nil)) (nomark _))))) (pss_one (ps_ret pe_bl)) pss_nil)
      (pss_cons (ps_for PassesOwn.never rfl (pi_range2 (by rfl) B.range_ (pa_cons pe_int (pa_cons (pe_callB (bLen (K := K)) (by rfl) B.len_ boot_len (pa_cons (pv 0) pa_nil)) pa_nil))) (pg_name (i := 2) sc_Lis_level.nd rfl (Or.inl rfl)) (pss_one (ps_if (pt_cmpR op_gt (pe_ix (ixl (K := K)) (pv 0) (pv 2) (fun _ _ => rfl)) (pe_ix (ixl (K := K)) (pv 0) (pe_op op_sub (pv 2) pe_int) (fun _ _ => rfl)) (nomark _)) (pss_one (ps_ret pe_bl)) pss_nil)))
      (pss_one (ps_ret (pe_or (pe_cmpR op_eq (pe_callB (bLen (K := K)) (by rfl) B.len_ boot_len (pa_cons (pv 0) pa_nil)) pe_int (nomark _)) (pe_one (pe_cmpR op_le (pe_op op_sub (pe_ix (ixl (K := K)) (pv 0) pe_int (fun _ _ => rfl)) (pe_ix (ixl (K := K)) (pv 0) (pe_un un_neg pe_int) (fun _ _ => rfl))) pe_int (nomark _)))))))), Go.here ?_⟩
    walk_at "s"; walk_at "ks"
    refine c_len hS ?_
    walk_at "ks"
    refine k_Lwholes (by rw [List.length_map, hv.len]) hA ?_
    walk_at "ks"
    refine ⟨fun hb => Bool.noConfusion hb, fun _ => ?_⟩
    walk_at "ks"
    refine c_sum (sq_of hA) ?_
    walk_at "ks"
    refine c_sum hS ?_
    walk_at "ks"
    rw [hv.sum, decide_eq_true rfl]
    refine ⟨fun hb => Bool.noConfusion hb, fun _ => ?_⟩
    refine gs_forR2 (lo := 1) (n := (fs.length : Int)) (fun i σ' H' => ∃ (v : Option V), σ' = [some (.ref a), some (.ref b), v] ∧ H = H') ?_ ?_ ?_
    · walk_at "ks"
      refine c_len (sq_of hA) ?_
      rw [List.length_map]
      walk_at "ks"
      exact ⟨rfl, ⟨by omega, by omega, by omega, by omega⟩, none, rfl, rfl⟩
    · rintro i σ' H' hi ⟨v, rfl, rfl⟩
      have h1 : i + 1 < fs.length := by omega
      have g1 := Pm.getD_at h1
      have g0 := Pm.getD_at (l := fs) (i := i) (by omega)
      have e1 : (1 : Int) + (i : Int) = ((i + 1 : Nat) : Int) := by omega
      have e2 : ((i + 1 : Nat) : Int) - 1 = (i : Int) := by omega
      rw [e1]
      walk_at "s"; walk_at "ks"
      refine r_ixL (sq_of hA) (Pm.atI_map g1) ?_
      walk_at "ks"
      rw [e2]
      refine r_ixL (sq_of hA) (Pm.atI_map g0) ?_
      walk_at "ks"
      refine ⟨fun hb => ?_, fun _ => ?_⟩
      · have h2 := of_decide_eq_true hb
        have h3 := hv.down i h1
        omega
      · exact g1_next fun H1 e1 => ⟨_, e1, _, rfl, rfl⟩
    · rintro σ' H' ⟨v, rfl, rfl⟩
      walk_at "s"; walk_at "ks"
      refine c_len (sq_of hA) ?_
      rw [List.length_map]
      walk_at "ks"
      refine ⟨fun hb => ?_, fun hb => ?_⟩
      · exact q
      · have h1 : fs.length ≠ 0 := fun z => by
          rw [z] at hb
          exact absurd hb (by decide)
        walk_at "ks"
        refine r_ixL (sq_of hA) (Pm.atI_map (k := 0) (Pm.getD_at (by omega))) ?_
        walk_at "ks"
        refine r_ixL (sq_of hA) (Pm.atI_last (by omega)) ?_
        walk_at "ks"
        have h3 := hv.flat (by omega)
        rw [decide_eq_true (show fs.getD 0 0 - fs.getD (fs.length - 1) 0 ≤ 1 from h3)]
        exact q
theorem ok_law {f : Addr} {fd : FuncData} (F : Fun K "law" "law" s_law f fd) (B : Bl mg) {f_Lbelow : Addr} {fd_Lbelow : FuncData} (c_Lbelow : Cl P w K mg base CX0 2 "_law_below" f_Lbelow fd_Lbelow ["_law_low", "_law_high", "_law_many"] (spLbelow K)) {f_Lis_level : Addr} {fd_Lis_level : FuncData} (c_Lis_level : Cl P w K mg base CX0 2 "_law_is_level" f_Lis_level fd_Lis_level ["_law_found", "_law_row_here"] (spLis_level K)) {f_Lpairs : Addr} {fd_Lpairs : FuncData} (c_Lpairs : Cl P w K mg base CX0 1 "_law_pairs" f_Lpairs fd_Lpairs ["_law_row_here"] (spLpairs K)) {f_Lrow : Addr} {fd_Lrow : FuncData} (c_Lrow : Cl P w K mg base CX0 3 "_law_row" f_Lrow fd_Lrow ["_law_script"] (spLrow K)) {f_Lwholes : Addr} {fd_Lwholes : FuncData} (c_Lwholes : Cl P w K mg base CX0 1 "_law_wholes" f_Lwholes fd_Lwholes ["_law_found", "_law_many"] (spLwholes K)) {f_level : Addr} {fd_level : FuncData} (c_level : Cl P w K mg base CX0 1 "level" f_level fd_level ["row"] (splevel K)) {f_spread : Addr} {fd_spread : FuncData} (c_spread : Cl P w K mg base CX0 1 "spread" f_spread fd_spread ["row"] (spspread K)) {f_tops : Addr} {fd_tops : FuncData} (c_tops : Cl P w K mg base CX0 1 "tops" f_tops fd_tops ["row"] (spTops K)) : FnOk P w K mg base CX0 4 f fd ["_law_script"] (spLaw K) := by
  refine F.ok sc_law (fun vs H Q E h => ?_) (fun cdv A outer s H vs Q E hr h => ?_)
  · obtain ⟨a, ns, rfl, _⟩ := h
    rfl
  · obtain ⟨a, ns, rfl, hS, hl, hbits, q⟩ := h
    have hB : AllBd 1048576 ns := fun z hz => Bd.bits (hbits z hz)
    refine ⟨_, (pss_cons (ps_set (i := 1) sc_law.nd rfl (Or.inl rfl) (pe_call c_Lrow.ok (hr.mono (by decide)) (by rfl) c_Lrow.gl c_Lrow.kp c_Lrow.bd .nil pass0 (pa_cons (pv 0) pa_nil)))
      (pss_cons (ps_set (i := 2) sc_law.nd rfl (Or.inl rfl) (pe_callTy (bList (K := K)) (by rfl) B.list_ boot_list (pa_cons (pv 1) pa_nil)))
      (pss_cons (ps_set (i := 3) sc_law.nd rfl (Or.inl rfl) (pe_call c_level.ok (hr.mono (by decide)) (by rfl) c_level.gl c_level.kp c_level.bd .nil pass0 (pa_cons (pv 2) pa_nil)))
      (pss_cons (ps_set (i := 4) sc_law.nd rfl (Or.inl rfl) (pe_call c_spread.ok (hr.mono (by decide)) (by rfl) c_spread.gl c_spread.kp c_spread.bd .nil pass0 (pa_cons (pv 2) pa_nil)))
      (pss_cons (ps_if (PW.pt (pw_or (pt_cmpR (oNeD (K := K) hr.units) (pv 2) (pv 1) (nomark _)) (pw_or (pt_not (pt_val (pe_call c_Lis_level.ok (hr.mono (by decide)) (by rfl) c_Lis_level.gl c_Lis_level.kp c_Lis_level.bd .nil pass0 (pa_cons (pv 3) (pa_cons (pv 1) pa_nil))))) (pw_or (pt_not (pt_val (pe_call c_Lwholes.ok (hr.mono (by decide)) (by rfl) c_Lwholes.gl c_Lwholes.kp c_Lwholes.bd .nil pass0 (pa_cons (pe_lst (pa_cons (pv 4) pa_nil)) (pa_cons pe_int pa_nil))))) (pw_or1 (pt_cmpR op_ne (pv 4) (pe_call c_Lpairs.ok (hr.mono (by decide)) (by rfl) c_Lpairs.gl c_Lpairs.kp c_Lpairs.bd .nil pass0 (pa_cons (pv 1) pa_nil)) (nomark _))))))) (pss_one (ps_ret pe_bl)) pss_nil)
      (pss_cons (ps_set (i := 5) sc_law.nd rfl (Or.inl rfl) (pe_callTy (bList (K := K)) (by rfl) B.list_ boot_list (pa_cons (pv 3) pa_nil)))
      (pss_cons (ps_set (i := 6) sc_law.nd rfl (Or.inl rfl) pe_int)
      (pss_cons (ps_for PassesOwn.never rfl (piL (K := K) (pv 5)) (pg_name (i := 7) sc_law.nd rfl (Or.inl rfl)) (pss_one (ps_set (i := 6) sc_law.nd rfl (Or.inl rfl) (pe_op op_add (pv 6) (pe_callTy call_int1 (by rfl) B.int_ boot_int (pa_cons (pe_cmpR op_gt (pv 7) (pe_ix (ixl (K := K)) (pv 5) (pe_un un_neg pe_int) (fun _ _ => rfl)) (nomark _)) pa_nil))))))
      (pss_cons (ps_set (i := 8) sc_law.nd rfl (Or.inl rfl) (pe_call c_spread.ok (hr.mono (by decide)) (by rfl) c_spread.gl c_spread.kp c_spread.bd .nil pass0 (pa_cons (pv 3) pa_nil)))
      (pss_cons (ps_if (PW.pt (pw_or (pt_not (pt_val (pe_call c_Lwholes.ok (hr.mono (by decide)) (by rfl) c_Lwholes.gl c_Lwholes.kp c_Lwholes.bd .nil pass0 (pa_cons (pe_lst (pa_cons (pv 8) pa_nil)) (pa_cons pe_int pa_nil))))) (pw_or (pt_cmpR op_ne (pv 8) (pe_op op_mulX (pv 6) (pe_op op_sub (pe_callB (bLen (K := K)) (by rfl) B.len_ boot_len (pa_cons (pv 1) pa_nil)) (pv 6))) (nomark _)) (pw_or1 (pt_cmpR (oNeD (K := K) hr.units) (pv 3) (pv 5) (nomark _)))))) (pss_one (ps_ret pe_bl)) pss_nil)
      (pss_cons (ps_if (PW.pt (pw_or (pt_cmpR (oNeD (K := K) hr.units) (pe_call c_level.ok (hr.mono (by decide)) (by rfl) c_level.gl c_level.kp c_level.bd .nil pass0 (pa_cons (pv 3) pa_nil)) (pv 5) (nomark _)) (pw_or1 (pt_not (pt_val (pe_call c_Lbelow.ok (hr.mono (by decide)) (by rfl) c_Lbelow.gl c_Lbelow.kp c_Lbelow.bd .nil pass0 (pa_cons (pe_call c_tops.ok (hr.mono (by decide)) (by rfl) c_tops.gl c_tops.kp c_tops.bd .nil pass0 (pa_cons (pv 3) pa_nil)) (pa_cons (pe_call c_tops.ok (hr.mono (by decide)) (by rfl) c_tops.gl c_tops.kp c_tops.bd .nil pass0 (pa_cons (pv 1) pa_nil)) (pa_cons (pe_op op_add (pe_callB (bLen (K := K)) (by rfl) B.len_ boot_len (pa_cons (pv 1) pa_nil)) pe_int) pa_nil))))))))) (pss_one (ps_ret pe_bl)) pss_nil)
      (pss_cons (ps_expr (peBm0 (K := K) PySem.F.plainAttrs_list PySem.F.slot_list_reverse PySem.F.type_list_reverse mt_reverse (pv 2)))
      (pss_cons (ps_expr (peBm (K := K) PySem.F.plainAttrs_list PySem.F.slot_list_append PySem.F.type_list_append mt_append (pv 3) (pa_cons pe_int pa_nil)))
      (pss_one (ps_ret (pe_and (pe_cmpR (oEqD (K := K) hr.units) (pe_call c_level.ok (hr.mono (by decide)) (by rfl) c_level.gl c_level.kp c_level.bd .nil pass0 (pa_cons (pv 2) pa_nil)) (pv 5) (nomark _)) (pe_one (pe_cmpR op_eq (pe_call c_spread.ok (hr.mono (by decide)) (by rfl) c_spread.gl c_spread.kp c_spread.bd .nil pass0 (pa_cons (pv 2) pa_nil)) (pv 4) (nomark _))))))))))))))))))), Go.here ?_⟩
    walk_at "s"; walk_at "ks"
    refine k_Lrow hS hB fun ms p hm hmB np => ?_
    have hms : ms.length ≤ 100 := by omega
    have p1 : (upd H p (.lst (ms.map V.int))) p = some (.lst (ms.map V.int)) := upd_same
    generalize upd H p (.lst (ms.map V.int)) = H1 at p1 ⊢
    walk_at "s"; walk_at "ks"
    refine c_list (sq_of p1) fun h nh => ?_
    have p2 := at_up (o := .lst (ms.map V.int)) p1 nh
    have h2 : (upd H1 h (.lst (ms.map V.int))) h = some (.lst (ms.map V.int)) := upd_same
    have hhp : h ≠ p := fun e => by
      subst e
      rw [p1] at nh
      cases nh
    generalize upd H1 h (.lst (ms.map V.int)) = H2 at p2 h2 ⊢
    walk_at "s"; walk_at "ks"
    refine k_level (sq_of h2) hms fun f nf => ?_
    have p3 := at_up (o := .lst ((Pm.level ms.length ms.sum).map V.int)) p2 nf
    have h3 := at_up (o := .lst ((Pm.level ms.length ms.sum).map V.int)) h2 nf
    have f3 : (upd H2 f (.lst ((Pm.level ms.length ms.sum).map V.int))) f = some (.lst ((Pm.level ms.length ms.sum).map V.int)) := upd_same
    have hfp : f ≠ p := fun e => by
      subst e
      rw [p2] at nf
      cases nf
    have hfh : f ≠ h := fun e => by
      subst e
      rw [h2] at nf
      cases nf
    generalize upd H2 f (.lst ((Pm.level ms.length ms.sum).map V.int)) = H3 at p3 h3 f3 ⊢
    have hll : (Pm.level ms.length ms.sum).length = ms.length := Pm.level_len _ _
    walk_at "s"; walk_at "ks"
    refine k_spread (sq_of h3) hms (hmB.mono (by decide)) ?_
    walk_at "s"; walk_at "ks"
    refine r_neI2 (sq_of h3) (sq_of p3) ?_
    walk_at "ks"
    refine ⟨fun hb => Bool.noConfusion hb, fun _ => ?_⟩
    walk_at "ks"
    refine k_Lis_level f3 (sq_of p3) (by omega) (Pm_isLv ms) ?_
    walk_at "ks"
    refine ⟨fun hb => Bool.noConfusion hb, fun _ => ?_⟩
    walk_at "ks"
    refine ⟨(by show 1 ≤ 100000; decide), fun c nc => ?_⟩
    walk_at "ks"
    refine k_Lwholes (ns := [Pm.spread ms]) rfl upd_same ?_
    walk_at "ks"
    refine ⟨fun hb => Bool.noConfusion hb, fun _ => ?_⟩
    have p4 := at_up (o := .lst [V.int (Pm.spread ms)]) p3 nc
    have h4 := at_up (o := .lst [V.int (Pm.spread ms)]) h3 nc
    have f4 := at_up (o := .lst [V.int (Pm.spread ms)]) f3 nc
    generalize upd H3 c (.lst [V.int (Pm.spread ms)]) = H4 at p4 h4 f4 ⊢
    walk_at "ks"
    refine k_Lpairs (sq_of p4) hms hmB ?_
    walk_at "ks"
    rw [decide_eq_true rfl]
    refine ⟨fun hb => Bool.noConfusion hb, fun _ => ?_⟩
    walk_at "s"; walk_at "ks"
    refine c_list (sq_of f4) fun k nk => ?_
    have p5 := at_up (o := .lst ((Pm.level ms.length ms.sum).map V.int)) p4 nk
    have h5 := at_up (o := .lst ((Pm.level ms.length ms.sum).map V.int)) h4 nk
    have f5 := at_up (o := .lst ((Pm.level ms.length ms.sum).map V.int)) f4 nk
    have k5 : (upd H4 k (.lst ((Pm.level ms.length ms.sum).map V.int))) k = some (.lst ((Pm.level ms.length ms.sum).map V.int)) := upd_same
    have hkf : k ≠ f := fun e => by
      subst e
      rw [f4] at nk
      cases nk
    have hkh : k ≠ h := fun e => by
      subst e
      rw [h4] at nk
      cases nk
    generalize upd H4 k (.lst ((Pm.level ms.length ms.sum).map V.int)) = H5 at p5 h5 f5 k5 ⊢
    have hs0 : ms.length = 0 → ms.sum = 0 := fun z => by
      rw [List.eq_nil_of_length_eq_zero z]
      rfl
    have hr0 : 0 ≤ ms.sum % (ms.length : Int) := Pm.rest0 ms
    have hrn : min (ms.length : Int) (ms.sum % (ms.length : Int)) = ms.sum % (ms.length : Int) := Pm.restn ms
    walk_at "s"; walk_at "ks"
    refine gs_forL (a := k) (xs := (Pm.level ms.length ms.sum).map V.int) (fun i σ' H' => ∃ (v : Option V), σ' = [some (.ref a), some (.ref p), some (.ref h), some (.ref f), some (.int (Pm.spread ms)), some (.ref k), some (.int (min (i : Int) (ms.sum % (ms.length : Int)))), v, none] ∧ H5 = H') ?_ ?_ ?_ ?_
    · walk_at "ks"
      refine ⟨rfl, sq_of k5, none, ?_, rfl⟩
      have e0 : min ((0 : Nat) : Int) (ms.sum % (ms.length : Int)) = 0 := by omega
      rw [e0]
      rfl
    · rintro i σ' H' _ ⟨v, _, rfl⟩
      exact sq_of k5
    · rintro i x σ' H' hx ⟨v, rfl, rfl⟩
      obtain ⟨z, hz, rfl⟩ := Pm.map_at hx
      have hi : i < ms.length := by
        have h1 := (List.getElem?_eq_some_iff.mp hz).1
        omega
      have ez : z = Pm.lv ms.length ms.sum i := Option.some.inj (hz.symm.trans (Pm.level_at hi))
      have g1 := Pm.level_at (s := ms.sum) (show ms.length - 1 < ms.length by omega)
      walk_at "s"; walk_at "ks"
      refine r_ixL (sq_of k5) (Pm.atI_last (by omega)) ?_
      walk_at "ks"
      refine c_intB ?_
      walk_at "ks"
      refine fun H1 e1 => ⟨_, e1, some (.int z), ?_, rfl⟩
      have e3 : (Pm.level ms.length ms.sum).getD ((Pm.level ms.length ms.sum).length - 1) 0 = Pm.lv ms.length ms.sum (ms.length - 1) := by
        rw [Pm.level_len, List.getD_eq_getElem?_getD, g1]
        rfl
      have e4 := Pm.more_step (ms := ms) hi
      rw [e3, ez, e4]
      rfl
    rintro σ' H' ⟨v, rfl, rfl⟩
    rw [List.length_map, Pm.level_len, hrn]
    walk_at "s"; walk_at "ks"
    have hLB : AllBd 300 (Pm.level ms.length ms.sum) := fun y hy => by
      obtain ⟨i, _, rfl⟩ := List.mem_map.mp hy
      have b1 : Bd 217 ms.sum := Pm.sum_bd hmB hms
      have b2 : Bd 217 (ms.sum / (ms.length : Int)) := b1.div
      have b3 : Bd 1 (if (i : Int) < ms.sum % (ms.length : Int) then 1 else 0) := Bd.ite (by unfold Bd; decide) (by unfold Bd; decide)
      exact (b2.add b3).mono (by decide)
    refine k_spread (sq_of f5) (by omega) hLB ?_
    rw [Pm.spread_level' ms]
    have bR : Bd 7 (ms.sum % (ms.length : Int)) := by
      unfold Bd
      omega
    have bN : Bd 7 (ms.length : Int) := by
      unfold Bd
      omega
    walk_at "s"; walk_at "ks"
    refine ⟨(by show 1 ≤ 100000; decide), fun c nc => ?_⟩
    walk_at "ks"
    refine k_Lwholes (ns := [ms.sum % (ms.length : Int) * ((ms.length : Int) - ms.sum % (ms.length : Int))]) rfl upd_same ?_
    walk_at "ks"
    refine ⟨fun hb => Bool.noConfusion hb, fun _ => ?_⟩
    have p6 := at_up (o := .lst [V.int (ms.sum % (ms.length : Int) * ((ms.length : Int) - ms.sum % (ms.length : Int)))]) p5 nc
    have h6 := at_up (o := .lst [V.int (ms.sum % (ms.length : Int) * ((ms.length : Int) - ms.sum % (ms.length : Int)))]) h5 nc
    have f6 := at_up (o := .lst [V.int (ms.sum % (ms.length : Int) * ((ms.length : Int) - ms.sum % (ms.length : Int)))]) f5 nc
    have k6 := at_up (o := .lst [V.int (ms.sum % (ms.length : Int) * ((ms.length : Int) - ms.sum % (ms.length : Int)))]) k5 nc
    generalize upd H5 c (.lst [V.int (ms.sum % (ms.length : Int) * ((ms.length : Int) - ms.sum % (ms.length : Int)))]) = H6 at p6 h6 f6 k6 ⊢
    walk_at "ks"
    refine c_len (sq_of p6) ?_
    rw [List.length_map]
    walk_at "ks"
    rw [decide_eq_true rfl]
    refine ⟨fun hb => Bool.noConfusion hb, fun _ => ?_⟩
    walk_at "ks"
    refine r_neI2 (sq_of f6) (sq_of k6) ?_
    walk_at "ks"
    refine ⟨fun hb => Bool.noConfusion hb, fun _ => ?_⟩
    walk_at "s"; walk_at "ks"
    refine k_level (sq_of f6) (by omega) fun u nu => ?_
    have el : Pm.level (Pm.level ms.length ms.sum).length (Pm.level ms.length ms.sum).sum = Pm.level ms.length ms.sum := by
      rw [(Pm_isLv ms).len, (Pm_isLv ms).sum]
    rw [el]
    walk_at "ks"
    refine r_neI2 (sq_of upd_same) (sq_of (at_up k6 nu)) ?_
    walk_at "ks"
    refine ⟨fun hb => Bool.noConfusion hb, fun _ => ?_⟩
    have p7 := at_up (o := .lst ((Pm.level ms.length ms.sum).map V.int)) p6 nu
    have h7 := at_up (o := .lst ((Pm.level ms.length ms.sum).map V.int)) h6 nu
    have f7 := at_up (o := .lst ((Pm.level ms.length ms.sum).map V.int)) f6 nu
    have k7 := at_up (o := .lst ((Pm.level ms.length ms.sum).map V.int)) k6 nu
    generalize upd H6 u (.lst ((Pm.level ms.length ms.sum).map V.int)) = H7 at p7 h7 f7 k7 ⊢
    walk_at "ks"
    refine k_tops (sq_of f7) (by omega) fun t nt => ?_
    have p8 := at_up (o := .lst ((Pm.tops (Pm.level ms.length ms.sum)).map V.int)) p7 nt
    have h8 := at_up (o := .lst ((Pm.tops (Pm.level ms.length ms.sum)).map V.int)) h7 nt
    have f8 := at_up (o := .lst ((Pm.tops (Pm.level ms.length ms.sum)).map V.int)) f7 nt
    have k8 := at_up (o := .lst ((Pm.tops (Pm.level ms.length ms.sum)).map V.int)) k7 nt
    have t8 : (upd H7 t (.lst ((Pm.tops (Pm.level ms.length ms.sum)).map V.int))) t = some (.lst ((Pm.tops (Pm.level ms.length ms.sum)).map V.int)) := upd_same
    generalize upd H7 t (.lst ((Pm.tops (Pm.level ms.length ms.sum)).map V.int)) = H8 at p8 h8 f8 k8 t8 ⊢
    walk_at "ks"
    refine k_tops (sq_of p8) (by omega) fun t2 nt2 => ?_
    have p9 := at_up (o := .lst ((Pm.tops ms).map V.int)) p8 nt2
    have h9 := at_up (o := .lst ((Pm.tops ms).map V.int)) h8 nt2
    have f9 := at_up (o := .lst ((Pm.tops ms).map V.int)) f8 nt2
    have k9 := at_up (o := .lst ((Pm.tops ms).map V.int)) k8 nt2
    have t9 := at_up (o := .lst ((Pm.tops ms).map V.int)) t8 nt2
    have u9 : (upd H8 t2 (.lst ((Pm.tops ms).map V.int))) t2 = some (.lst ((Pm.tops ms).map V.int)) := upd_same
    generalize upd H8 t2 (.lst ((Pm.tops ms).map V.int)) = H9 at p9 h9 f9 k9 t9 u9 ⊢
    walk_at "ks"
    refine c_len (sq_of p9) ?_
    rw [List.length_map]
    walk_at "ks"
    refine k_Lbelow (xs := Pm.tops (Pm.level ms.length ms.sum)) (ys := Pm.tops ms) (by rw [Pm.tops_len, hll]; omega) t9 u9 (by rw [Pm.tops_len, Pm.tops_len, hll]) (fun i x y hx hy => Pm.tops_level_le hx hy) ?_
    walk_at "ks"
    refine ⟨fun hb => Bool.noConfusion hb, fun _ => ?_⟩
    walk_at "s"; walk_at "ks"
    refine ⟨tyl (sq_of h9), ?_⟩
    refine m_reverse h9 ?_
    walk_at "s"; walk_at "ks"
    refine ⟨tyl (sq_of (xs := (Pm.level ms.length ms.sum).map V.int) (by rw [upd_ne hfh]; exact f9)), ?_⟩
    walk_at "ks"
    refine m_append (xs := (Pm.level ms.length ms.sum).map V.int) (by rw [upd_ne hfh]; exact f9) (by rw [List.length_map]; omega) ?_
    have h10 : (upd (upd H9 h (.lst (ms.map V.int).reverse)) f (.lst ((Pm.level ms.length ms.sum).map V.int ++ [V.int 1]))) h = some (.lst (ms.reverse.map V.int)) := by
      rw [upd_ne hfh.symm, upd_same, List.map_reverse]
    have k10 : (upd (upd H9 h (.lst (ms.map V.int).reverse)) f (.lst ((Pm.level ms.length ms.sum).map V.int ++ [V.int 1]))) k = some (.lst ((Pm.level ms.length ms.sum).map V.int)) := by
      rw [upd_ne hkf, upd_ne hkh]
      exact k9
    generalize upd (upd H9 h (.lst (ms.map V.int).reverse)) f (.lst ((Pm.level ms.length ms.sum).map V.int ++ [V.int 1])) = H10 at h10 k10 ⊢
    have pr := List.reverse_perm ms
    walk_at "s"; walk_at "ks"
    refine k_level (sq_of h10) (by rw [List.length_reverse]; omega) fun v nv => ?_
    rw [List.length_reverse, Pm.perm_sum pr]
    walk_at "ks"
    refine r_eqI2 (sq_of upd_same) (sq_of (at_up k10 nv)) ?_
    walk_at "ks"
    refine ⟨fun _ => ?_, fun hb => Bool.noConfusion hb⟩
    walk_at "ks"
    refine k_spread (sq_of (at_up h10 nv)) (by rw [List.length_reverse]; omega) (fun y hy => (hmB y (pr.mem_iff.mp hy)).mono (by decide)) ?_
    rw [Pm.spread_perm pr]
    walk_at "ks"
    rw [decide_eq_true rfl]
    exact fun H11 _ => q H11
end
theorem all_mk {l : PySem.W.OpenLaw} {w : World} {K : PySem.W.Frag} {h : Heap} {mg : Str → Option Value} {fa f1 f2 f3 f4 f5 f6 f7 f8 f9 f10 f11 f12 f13 : Addr} (X : K.In h) (G : h.Ns mainGlobals mg) (hfa : mg "law" = some (.ref fa))
    {od1 an1 od2 an2 od3 an3 od4 an4 od5 an5 od6 an6 od7 an7 od8 an8 od9 an9 od10 an10 od11 an11 od12 an12 od13 an13 : Option Addr} {sl1 sl2 sl3 sl4 sl5 sl6 sl7 sl8 sl9 sl10 sl11 sl12 sl13 : Array (Option Value)} {oc1 kV1 dc1 pm1 cd1 ct1 oc2 kV2 dc2 pm2 cd2 ct2 oc3 kV3 dc3 pm3 cd3 ct3 oc4 kV4 dc4 pm4 cd4 ct4 oc5 kV5 dc5 pm5 cd5 ct5 oc6 kV6 dc6 pm6 cd6 ct6 oc7 kV7 dc7 pm7 cd7 ct7 oc8 kV8 dc8 pm8 cd8 ct8 oc9 kV9 dc9 pm9 cd9 ct9 oc10 kV10 dc10 pm10 cd10 ct10 oc11 kV11 dc11 pm11 cd11 ct11 oc12 kV12 dc12 pm12 cd12 ct12 oc13 kV13 dc13 pm13 cd13 ct13 : Value}
    (a1 : PySem.W.nsIn K mainGlobals "tops" = some (some (.ref f1))) (l1 : K.lookup f1 = some ⟨oc1, od1, .func (PySem.W.fnOf "tops" "tops" (defArgs s_tops) (defBody s_tops) (defScope s_tops) .none kV1 dc1 pm1 an1 cd1 ct1), sl1⟩) (c1 : PySem.W.codeIn K cd1 "tops" = true) (k1 : PySem.W.keepIn K (.ref f1) = true)
    (a2 : PySem.W.nsIn K mainGlobals "spread" = some (some (.ref f2))) (l2 : K.lookup f2 = some ⟨oc2, od2, .func (PySem.W.fnOf "spread" "spread" (defArgs s_spread) (defBody s_spread) (defScope s_spread) .none kV2 dc2 pm2 an2 cd2 ct2), sl2⟩) (c2 : PySem.W.codeIn K cd2 "spread" = true) (k2 : PySem.W.keepIn K (.ref f2) = true)
    (a3 : PySem.W.nsIn K mainGlobals "level" = some (some (.ref f3))) (l3 : K.lookup f3 = some ⟨oc3, od3, .func (PySem.W.fnOf "level" "level" (defArgs s_level) (defBody s_level) (defScope s_level) .none kV3 dc3 pm3 an3 cd3 ct3), sl3⟩) (c3 : PySem.W.codeIn K cd3 "level" = true) (k3 : PySem.W.keepIn K (.ref f3) = true)
    (a4 : PySem.W.nsIn K mainGlobals "_law_cell_at" = some (some (.ref f4))) (l4 : K.lookup f4 = some ⟨oc4, od4, .func (PySem.W.fnOf "_law_cell_at" "_law_cell_at" (defArgs s_Lcell_at) (defBody s_Lcell_at) (defScope s_Lcell_at) .none kV4 dc4 pm4 an4 cd4 ct4), sl4⟩) (c4 : PySem.W.codeIn K cd4 "_law_cell_at" = true) (k4 : PySem.W.keepIn K (.ref f4) = true)
    (a5 : PySem.W.nsIn K mainGlobals "_law_mixed" = some (some (.ref f5))) (l5 : K.lookup f5 = some ⟨oc5, od5, .func (PySem.W.fnOf "_law_mixed" "_law_mixed" (defArgs s_Lmixed) (defBody s_Lmixed) (defScope s_Lmixed) .none kV5 dc5 pm5 an5 cd5 ct5), sl5⟩) (c5 : PySem.W.codeIn K cd5 "_law_mixed" = true) (k5 : PySem.W.keepIn K (.ref f5) = true)
    (a6 : PySem.W.nsIn K mainGlobals "_law_within" = some (some (.ref f6))) (l6 : K.lookup f6 = some ⟨oc6, od6, .func (PySem.W.fnOf "_law_within" "_law_within" (defArgs s_Lwithin) (defBody s_Lwithin) (defScope s_Lwithin) .none kV6 dc6 pm6 an6 cd6 ct6), sl6⟩) (c6 : PySem.W.codeIn K cd6 "_law_within" = true) (k6 : PySem.W.keepIn K (.ref f6) = true)
    (a7 : PySem.W.nsIn K mainGlobals "_law_purse" = some (some (.ref f7))) (l7 : K.lookup f7 = some ⟨oc7, od7, .func (PySem.W.fnOf "_law_purse" "_law_purse" (defArgs s_Lpurse) (defBody s_Lpurse) (defScope s_Lpurse) .none kV7 dc7 pm7 an7 cd7 ct7), sl7⟩) (c7 : PySem.W.codeIn K cd7 "_law_purse" = true) (k7 : PySem.W.keepIn K (.ref f7) = true)
    (a8 : PySem.W.nsIn K mainGlobals "_law_row" = some (some (.ref f8))) (l8 : K.lookup f8 = some ⟨oc8, od8, .func (PySem.W.fnOf "_law_row" "_law_row" (defArgs s_Lrow) (defBody s_Lrow) (defScope s_Lrow) .none kV8 dc8 pm8 an8 cd8 ct8), sl8⟩) (c8 : PySem.W.codeIn K cd8 "_law_row" = true) (k8 : PySem.W.keepIn K (.ref f8) = true)
    (a9 : PySem.W.nsIn K mainGlobals "_law_wholes" = some (some (.ref f9))) (l9 : K.lookup f9 = some ⟨oc9, od9, .func (PySem.W.fnOf "_law_wholes" "_law_wholes" (defArgs s_Lwholes) (defBody s_Lwholes) (defScope s_Lwholes) .none kV9 dc9 pm9 an9 cd9 ct9), sl9⟩) (c9 : PySem.W.codeIn K cd9 "_law_wholes" = true) (k9 : PySem.W.keepIn K (.ref f9) = true)
    (a10 : PySem.W.nsIn K mainGlobals "_law_pairs" = some (some (.ref f10))) (l10 : K.lookup f10 = some ⟨oc10, od10, .func (PySem.W.fnOf "_law_pairs" "_law_pairs" (defArgs s_Lpairs) (defBody s_Lpairs) (defScope s_Lpairs) .none kV10 dc10 pm10 an10 cd10 ct10), sl10⟩) (c10 : PySem.W.codeIn K cd10 "_law_pairs" = true) (k10 : PySem.W.keepIn K (.ref f10) = true)
    (a11 : PySem.W.nsIn K mainGlobals "_law_is_level" = some (some (.ref f11))) (l11 : K.lookup f11 = some ⟨oc11, od11, .func (PySem.W.fnOf "_law_is_level" "_law_is_level" (defArgs s_Lis_level) (defBody s_Lis_level) (defScope s_Lis_level) .none kV11 dc11 pm11 an11 cd11 ct11), sl11⟩) (c11 : PySem.W.codeIn K cd11 "_law_is_level" = true) (k11 : PySem.W.keepIn K (.ref f11) = true)
    (a12 : PySem.W.nsIn K mainGlobals "_law_below" = some (some (.ref f12))) (l12 : K.lookup f12 = some ⟨oc12, od12, .func (PySem.W.fnOf "_law_below" "_law_below" (defArgs s_Lbelow) (defBody s_Lbelow) (defScope s_Lbelow) .none kV12 dc12 pm12 an12 cd12 ct12), sl12⟩) (c12 : PySem.W.codeIn K cd12 "_law_below" = true) (k12 : PySem.W.keepIn K (.ref f12) = true)
    (a13 : PySem.W.nsIn K mainGlobals "law" = some (some (.ref f13))) (l13 : K.lookup f13 = some ⟨oc13, od13, .func (PySem.W.fnOf "law" "law" (defArgs s_law) (defBody s_law) (defScope s_law) .none kV13 dc13 pm13 an13 cd13 ct13), sl13⟩) (c13 : PySem.W.codeIn K cd13 "law" = true) (k13 : PySem.W.keepIn K (.ref f13) = true)
    (z_bool : PySem.W.nsIn K mainGlobals "bool" = some none) (z_divmod : PySem.W.nsIn K mainGlobals "divmod" = some none) (z_int : PySem.W.nsIn K mainGlobals "int" = some none) (z_isinstance : PySem.W.nsIn K mainGlobals "isinstance" = some none) (z_len : PySem.W.nsIn K mainGlobals "len" = some none) (z_list : PySem.W.nsIn K mainGlobals "list" = some none) (z_range : PySem.W.nsIn K mainGlobals "range" = some none) (z_sorted : PySem.W.nsIn K mainGlobals "sorted" = some none) (z_sum : PySem.W.nsIn K mainGlobals "sum" = some none) (z_zip : PySem.W.nsIn K mainGlobals "zip" = some none)
    : ∃ fd : FuncData, (∀ (s : Shared) (v : Value), BindsTo s fd ⟨[v], []⟩ [("_law_script", v)]) ∧ ∀ base : Heap, K.In base → base.Ns mainGlobals mg → FnOk l.prog w K mg base CX0 4 fa fd ["_law_script"] (spLaw K) := by
  have e := hfa.symm.trans (PySem.W.mg_of X G a13)
  cases e
  have B : Bl mg := ⟨PySem.W.mg_none_of X G z_bool, PySem.W.mg_none_of X G z_divmod, PySem.W.mg_none_of X G z_int, PySem.W.mg_none_of X G z_isinstance, PySem.W.mg_none_of X G z_len, PySem.W.mg_none_of X G z_list, PySem.W.mg_none_of X G z_range, PySem.W.mg_none_of X G z_sorted, PySem.W.mg_none_of X G z_sum, PySem.W.mg_none_of X G z_zip⟩
  have F1 := fun_mk (st := s_tops) l1 c1 k1
  have b1 := F1.binds (ps := ["row"]) fun _ _ _ _ _ _ us hl => match us, hl with | [_], _ => rfl
  have F2 := fun_mk (st := s_spread) l2 c2 k2
  have b2 := F2.binds (ps := ["row"]) fun _ _ _ _ _ _ us hl => match us, hl with | [_], _ => rfl
  have F3 := fun_mk (st := s_level) l3 c3 k3
  have b3 := F3.binds (ps := ["row"]) fun _ _ _ _ _ _ us hl => match us, hl with | [_], _ => rfl
  have F4 := fun_mk (st := s_Lcell_at) l4 c4 k4
  have b4 := F4.binds (ps := ["_law_script", "_law_k"]) fun _ _ _ _ _ _ us hl => match us, hl with | [_, _], _ => rfl
  have F5 := fun_mk (st := s_Lmixed) l5 c5 k5
  have b5 := F5.binds (ps := ["_law_script", "_law_k"]) fun _ _ _ _ _ _ us hl => match us, hl with | [_, _], _ => rfl
  have F6 := fun_mk (st := s_Lwithin) l6 c6 k6
  have b6 := F6.binds (ps := ["_law_number"]) fun _ _ _ _ _ _ us hl => match us, hl with | [_], _ => rfl
  have F7 := fun_mk (st := s_Lpurse) l7 c7 k7
  have b7 := F7.binds (ps := ["_law_cell", "_law_kind", "_law_row_here"]) fun _ _ _ _ _ _ us hl => match us, hl with | [_, _, _], _ => rfl
  have F8 := fun_mk (st := s_Lrow) l8 c8 k8
  have b8 := F8.binds (ps := ["_law_script"]) fun _ _ _ _ _ _ us hl => match us, hl with | [_], _ => rfl
  have F9 := fun_mk (st := s_Lwholes) l9 c9 k9
  have b9 := F9.binds (ps := ["_law_found", "_law_many"]) fun _ _ _ _ _ _ us hl => match us, hl with | [_, _], _ => rfl
  have F10 := fun_mk (st := s_Lpairs) l10 c10 k10
  have b10 := F10.binds (ps := ["_law_row_here"]) fun _ _ _ _ _ _ us hl => match us, hl with | [_], _ => rfl
  have F11 := fun_mk (st := s_Lis_level) l11 c11 k11
  have b11 := F11.binds (ps := ["_law_found", "_law_row_here"]) fun _ _ _ _ _ _ us hl => match us, hl with | [_, _], _ => rfl
  have F12 := fun_mk (st := s_Lbelow) l12 c12 k12
  have b12 := F12.binds (ps := ["_law_low", "_law_high", "_law_many"]) fun _ _ _ _ _ _ us hl => match us, hl with | [_, _, _], _ => rfl
  have F13 := fun_mk (st := s_law) l13 c13 k13
  refine ⟨PySem.W.fnOf "law" "law" (defArgs s_law) (defBody s_law) (defScope s_law) .none kV13 dc13 pm13 an13 cd13 ct13, fun s v => .of_eq rfl, fun base _ _ => ?_⟩
  have c_tops : Cl l.prog w K mg base CX0 1 "tops" f1 _ ["row"] (spTops K) := ⟨ok_tops F1 B, PySem.W.mg_of X G a1, k1, b1⟩
  have c_spread : Cl l.prog w K mg base CX0 1 "spread" f2 _ ["row"] (spspread K) := ⟨ok_spread F2 B, PySem.W.mg_of X G a2, k2, b2⟩
  have c_level : Cl l.prog w K mg base CX0 1 "level" f3 _ ["row"] (splevel K) := ⟨ok_level F3 B, PySem.W.mg_of X G a3, k3, b3⟩
  have c_Lcell_at : Cl l.prog w K mg base CX0 1 "_law_cell_at" f4 _ ["_law_script", "_law_k"] (spLcell_at K) := ⟨ok_Lcell_at F4 B, PySem.W.mg_of X G a4, k4, b4⟩
  have c_Lmixed : Cl l.prog w K mg base CX0 1 "_law_mixed" f5 _ ["_law_script", "_law_k"] (spLmixed K) := ⟨ok_Lmixed F5 B, PySem.W.mg_of X G a5, k5, b5⟩
  have c_Lwithin : Cl l.prog w K mg base CX0 1 "_law_within" f6 _ ["_law_number"] (spLwithin K) := ⟨ok_Lwithin F6 B, PySem.W.mg_of X G a6, k6, b6⟩
  have c_Lpurse : Cl l.prog w K mg base CX0 2 "_law_purse" f7 _ ["_law_cell", "_law_kind", "_law_row_here"] (spLpurse K) := ⟨ok_Lpurse F7 B c_Lwithin, PySem.W.mg_of X G a7, k7, b7⟩
  have c_Lrow : Cl l.prog w K mg base CX0 3 "_law_row" f8 _ ["_law_script"] (spLrow K) := ⟨ok_Lrow F8 B c_Lcell_at c_Lmixed c_Lpurse, PySem.W.mg_of X G a8, k8, b8⟩
  have c_Lwholes : Cl l.prog w K mg base CX0 1 "_law_wholes" f9 _ ["_law_found", "_law_many"] (spLwholes K) := ⟨ok_Lwholes F9 B, PySem.W.mg_of X G a9, k9, b9⟩
  have c_Lpairs : Cl l.prog w K mg base CX0 1 "_law_pairs" f10 _ ["_law_row_here"] (spLpairs K) := ⟨ok_Lpairs F10 B, PySem.W.mg_of X G a10, k10, b10⟩
  have c_Lis_level : Cl l.prog w K mg base CX0 2 "_law_is_level" f11 _ ["_law_found", "_law_row_here"] (spLis_level K) := ⟨ok_Lis_level F11 B c_Lwholes, PySem.W.mg_of X G a11, k11, b11⟩
  have c_Lbelow : Cl l.prog w K mg base CX0 2 "_law_below" f12 _ ["_law_low", "_law_high", "_law_many"] (spLbelow K) := ⟨ok_Lbelow F12 B c_Lwholes, PySem.W.mg_of X G a12, k12, b12⟩
  exact ok_law F13 B c_Lbelow c_Lis_level c_Lpairs c_Lrow c_Lwholes c_level c_spread c_tops

end K04
open PySem PySem.W PyProof.Rows
set_option maxRecDepth 100000 in
set_option maxHeartbeats 0 in
theorem PySem.Challenge.cw_pursewise_k04_level_holds : PySem.Challenge.rw_pursewise_k04_level.Holds := by
  w_on; o_law; k_head; (case hw => w_witness2)
  k_fill
  refine L2.walk_ofB (l := PySem.Challenge.rw_pursewise_k04_level) (n := 63) (k := 4) (x := "_law_script") (CX := fun _ => L2.CX0) (sp := fun w => K04.spLaw _) rfl (by decide) rfl ⟨rfl, by decide, by decide⟩ (fun w h Y => PySem.W.kIn_of Y) ?F (fun _ _ a ns hl hb _ hS => ⟨a, ns, rfl, hS, hl, hb, fun _ => rfl⟩) (fun _ _ _ _ _ h => h)
  case F =>
    intro w mg fa h KX G hmg
    refine' K04.all_mk KX G hmg ?a1 ?l1 ?c1 ?k1 ?a2 ?l2 ?c2 ?k2 ?a3 ?l3 ?c3 ?k3 ?a4 ?l4 ?c4 ?k4 ?a5 ?l5 ?c5 ?k5 ?a6 ?l6 ?c6 ?k6 ?a7 ?l7 ?c7 ?k7 ?a8 ?l8 ?c8 ?k8 ?a9 ?l9 ?c9 ?k9 ?a10 ?l10 ?c10 ?k10 ?a11 ?l11 ?c11 ?k11 ?a12 ?l12 ?c12 ?k12 ?a13 ?l13 ?c13 ?k13 ?z_bool ?z_divmod ?z_int ?z_isinstance ?z_len ?z_list ?z_range ?z_sorted ?z_sum ?z_zip
    (case a1 => k_is)
    (case l1 => k_is)
    (case c1 => k_is)
    (case k1 => k_is)
    (case a2 => k_is)
    (case l2 => k_is)
    (case c2 => k_is)
    (case k2 => k_is)
    (case a3 => k_is)
    (case l3 => k_is)
    (case c3 => k_is)
    (case k3 => k_is)
    (case a4 => k_is)
    (case l4 => k_is)
    (case c4 => k_is)
    (case k4 => k_is)
    (case a5 => k_is)
    (case l5 => k_is)
    (case c5 => k_is)
    (case k5 => k_is)
    (case a6 => k_is)
    (case l6 => k_is)
    (case c6 => k_is)
    (case k6 => k_is)
    (case a7 => k_is)
    (case l7 => k_is)
    (case c7 => k_is)
    (case k7 => k_is)
    (case a8 => k_is)
    (case l8 => k_is)
    (case c8 => k_is)
    (case k8 => k_is)
    (case a9 => k_is)
    (case l9 => k_is)
    (case c9 => k_is)
    (case k9 => k_is)
    (case a10 => k_is)
    (case l10 => k_is)
    (case c10 => k_is)
    (case k10 => k_is)
    (case a11 => k_is)
    (case l11 => k_is)
    (case c11 => k_is)
    (case k11 => k_is)
    (case a12 => k_is)
    (case l12 => k_is)
    (case c12 => k_is)
    (case k12 => k_is)
    (case a13 => k_is)
    (case l13 => k_is)
    (case c13 => k_is)
    (case k13 => k_is)
    (case z_bool => k_is)
    (case z_divmod => k_is)
    (case z_int => k_is)
    (case z_isinstance => k_is)
    (case z_len => k_is)
    (case z_list => k_is)
    (case z_range => k_is)
    (case z_sorted => k_is)
    (case z_sum => k_is)
    (case z_zip => k_is)

