import PyProof.Rows.All
import Wide.All
import OpenK.AllK
import Wide.FinOn
import HandS.ForMost
import HandS.ForExc
import HandS.Evl
import HandS.EndBits
import HandS.WideBits
import HandS.SortKw
import HandS.SortInts
import HandS.IsInst
import HandS.Conv
import HandS.Codes
import HandS.Style
import HandS.Zip
import HandS.More
import HandS.ExcIs
import HandS.TryMany
import HandS.Text
import PySem.Challenge.RW_pursewise_k09_notes_shown_read
set_option Elab.async false
set_option linter.all false
set_option maxRecDepth 100000
set_option maxHeartbeats 4000000
/-! Px: a small calculus of our own over HandS: what a reading does from a heap that may have grown (Kc), told by the smallest heap that matters. -/
namespace Px
open PySem PySem.Spec PyProof.Rows L2 Evl

/-! ### heaps -/
theorem Ex.updm {H H1 : Hp} {l : Addr} {o : HO} (e : Ex H H1) : Ex (upd H l o) (upd H1 l o) := fun a u h => by
  by_cases ha : a = l
  · subst ha
    rw [upd_same] at h ⊢
    exact h
  · rw [upd_ne ha] at h ⊢
    exact e a u h
theorem Ex.put {H H1 : Hp} {l : Addr} {o : HO} (e : Ex H H1) (h : H1 l = some o) : Ex (upd H l o) H1 := fun a u q => by
  by_cases ha : a = l
  · subst ha
    rw [upd_same] at q
    rw [h]
    exact q
  · rw [upd_ne ha] at q
    exact e a u q
theorem sq_up {K : PySem.W.Frag} {H : Hp} {a p : Addr} {xs : List V} {o : HO} (h : SqL K H a xs) (hp : H p = none) : SqL K (upd H p o) a xs := ex_l (Ex.new hp) h
/-- an object that stands, behind a new one at p -/
theorem at_up {H : Hp} {a p : Addr} {o u : HO} (h : H a = some u) (hp : H p = none) : upd H p o a = some u := by
  rw [upd_ne (ne_of_none h hp)]
  exact h
theorem none_of_up {H : Hp} {q p : Addr} {o : HO} (h : upd H p o q = none) : H q = none ∧ q ≠ p := by
  by_cases e : q = p
  · subst e
    rw [upd_same] at h
    cases h
  · rw [upd_ne e] at h
    exact ⟨h, e⟩

/-! ### a def of the module as its callers use it -/
structure Cl (P : Program) (w : World) (K : PySem.W.Frag) (mg : Str → Option Value) (base : Heap) (CX : CXT) (k : Nat) (x : Str) (f : Addr) (fd : FuncData) (ps : List Str) (sp : Sp) : Prop where
  ok : FnOk P w K mg base CX k f fd ps sp
  gl : mg x = some (.ref f)
  kp : PySem.W.keepIn K (.ref f) = true
  bd : Binds K fd ps []

/-! ### sizes of whole numbers: below 2 ^ n in size -/
def Bd (n : Nat) (i : Int) : Prop := i.natAbs < 2 ^ n
theorem Bd.mono {n m : Nat} {i : Int} (h : Bd n i) (k : n ≤ m) : Bd m i := Nat.lt_of_lt_of_le h (Nat.pow_le_pow_right (by decide) k)
theorem Bd.add {n m : Nat} {i j : Int} (h : Bd n i) (k : Bd m j) : Bd (max n m + 1) (i + j) := by
  have h1 : i.natAbs < 2 ^ max n m := h.mono (Nat.le_max_left _ _)
  have h2 : j.natAbs < 2 ^ max n m := k.mono (Nat.le_max_right _ _)
  unfold Bd
  rw [Nat.pow_succ]
  omega
theorem Bd.sub {n m : Nat} {i j : Int} (h : Bd n i) (k : Bd m j) : Bd (max n m + 1) (i - j) := by
  have h1 : i.natAbs < 2 ^ max n m := h.mono (Nat.le_max_left _ _)
  have h2 : j.natAbs < 2 ^ max n m := k.mono (Nat.le_max_right _ _)
  unfold Bd
  rw [Nat.pow_succ]
  omega
theorem Bd.mul {n m : Nat} {i j : Int} (h : Bd n i) (k : Bd m j) : Bd (n + m) (i * j) := by
  unfold Bd at *
  rw [Int.natAbs_mul, Nat.pow_add]
  exact Nat.mul_lt_mul'' h k
theorem Bd.mod {n : Nat} {i j : Int} (k : Bd n j) (h : 0 < j) : Bd n (i % j) := by
  have h1 := Int.emod_nonneg i (show j ≠ 0 by omega)
  have h2 := Int.emod_lt_of_pos i h
  unfold Bd at k ⊢
  omega
theorem Bd.div {n : Nat} {i j : Int} (h : Bd n i) : Bd n (i / j) := Nat.lt_of_le_of_lt (Int.natAbs_ediv_le_natAbs i j) h
theorem Bd.mulX {n m : Nat} {i j : Int} (h : Bd n i) (k : Bd m j) (hl : n + m ≤ 134217728) : CMulX i j := mulx_ok h k hl
theorem Bd.bits {n : Nat} {i : Int} (h : Builtin.Int.intBits i ≤ n) : Bd n i := by
  unfold Bd
  unfold Builtin.Int.intBits at h
  split at h
  · rename_i z
    have z2 : i = 0 := by simpa using z
    rw [z2]
    exact Nat.pow_pos (by decide)
  · have h2 : i.natAbs < 2 ^ (i.natAbs.log2 + 1) := Nat.lt_log2_self
    exact Nat.lt_of_lt_of_le h2 (Nat.pow_le_pow_right (by decide) h)
theorem Bd.le {n : Nat} {i j : Int} (h : i.natAbs ≤ j.natAbs) (k : Bd n j) : Bd n i := Nat.lt_of_le_of_lt h k
theorem bd_lit (i : Int) : Bd (i.natAbs.log2 + 1) i := Nat.lt_log2_self
theorem Bd.ite {n : Nat} {c : Prop} [Decidable c] {i j : Int} (h : Bd n i) (k : Bd n j) : Bd n (if c then i else j) := by
  split
  · exact h
  · exact k

/-! ### rules that name the written part K by itself (so that a comprehension's element can bear them) -/
section
variable {X : Cx} {K : PySem.W.Frag}
theorem ixl (h : X.K = K := by rfl) : IxR X (rIxL K) := h ▸ ix_list
theorem ixt (h : X.K = K := by rfl) : IxR X (rIxT K) := h ▸ ix_tup
theorem sll (h : X.K = K := by rfl) : SlR X (rSlL K) := h ▸ sl_list
theorem slt (h : X.K = K := by rfl) : SlR X (rSlT K) := h ▸ sl_tup
def rLn (K : PySem.W.Frag) : List V → Hp → VK → Prop := fun xs H Q => ∃ p ys, xs = [.ref p] ∧ (SqL K H p ys ∨ SqT K H p ys) ∧ Q (.int ys.length) H
theorem bLen (h : X.K = K := by rfl) : CallR X (.builtin "len") (rLn K) := h ▸ call_len_seq
def rLs (K : PySem.W.Frag) : List V → Hp → VK → Prop := fun xs H Q => ∃ p ys, xs = [.ref p] ∧ (SqL K H p ys ∨ SqT K H p ys) ∧ ∀ l, H l = none → Q (.ref l) (upd H l (.lst ys))
theorem bList (h : X.K = K := by rfl) : CallR X (.type "list") (rLs K) := h ▸ call_list_of
theorem bSum (hc : X.calm = true) (h : X.K = K := by rfl) : CallR X (.builtin "sum") (rSum K) := h ▸ cr_sum hc
theorem bMin (hc : X.calm = true) (h : X.K = K := by rfl) : CallR X (.builtin "min") (rMin K) := h ▸ cr_min hc
theorem bMax (hc : X.calm = true) (h : X.K = K := by rfl) : CallR X (.builtin "max") (rMax K) := h ▸ cr_max hc
theorem bIsi (h : X.K = K := by rfl) : CallR X (.builtin "isinstance") (rIsi K) := h ▸ call_isi
theorem bSrt (h : X.K = K := by rfl) : CallR X (.builtin "sorted") (rSortedI K) := h ▸ cr_sortedI
theorem bSrtR (h : X.K = K := by rfl) : CallRK X (.builtin "sorted") [Str.ofString "reverse"] (rSortedKw K true [.bl true]) := h ▸ cr_sortedRev
theorem oEqD (hu : X.A.units + 64 < cLine) (h : X.K = K := by rfl) : OpR X (compareOp .Eq) (rEqD K) := h ▸ op_eqD hu
theorem oNeD (hu : X.A.units + 64 < cLine) (h : X.K = K := by rfl) : OpR X (compareOp .NotEq) (rNeD K) := h ▸ op_neD hu
theorem piL {tg l : Expr} {tl : TE} (hl : PE X l tl) (h : X.K = K := by rfl) : PI X tg l (iList K tl) := h ▸ pi_list hl
theorem piT {tg l : Expr} {tl : TE} (hl : PE X l tl) (h : X.K = K := by rfl) : PI X tg l (iTup K tl) := h ▸ pi_tup hl
theorem piZ {e e2 : Expr} {ta : TA} {p pos tpos : Pos} {elts : List Expr} {kk : Nat} (hg : Gl X "zip") (hm : X.mg "zip" = none) (ha : PA X [e, e2] ta) (h : X.K = K := by rfl)
    (hs : starEach [e, e2] X.env = (false, eval e X.env) :: starEach [e2] X.env := by rfl) (hpl : (backTo pos (starEach [e2] X.env)).any (·.1) = false := by rfl) :
    PI X (.Tuple elts kk tpos) (.Call (.Name "zip" p) [e, e2] [] pos) (iZip K ta) := h ▸ pi_zip hg hm ha hs hpl
theorem peBm {o e : Expr} {es : List Expr} {to : TE} {t : TA} {name : Str} {apos cpos : Pos} {T id : String} {r : V → List V → Hp → VK → Prop} (pa : PlainAttrs T) (slot : Slot T name id) (hty : typeOf (.builtin id) = pure (.type "method_descriptor")) (hm : MtR X id r) (ho : PE X o to) (ha : PA X (e :: es) t) (h : X.K = K := by rfl)
    (hbase : attributeBase o name X.env (eval o X.env) = eval o X.env := by rfl) (hline : (apos.endLine == cpos.line) = true := by rfl)
    (hs : starEach (e :: es) X.env = (false, eval e X.env) :: starEach es X.env := by rfl)
    (hfew : ((((backTo cpos (starEach (e :: es) X.env)).all fun x => !x.1) && (backToKw cpos (keywordEach [] X.env)).all fun x => x.1.isSome) && decide (((e :: es).length + ([] : List Keyword).length + if ([] : List Keyword).isEmpty then 0 else 1) < 30)) = true := by rfl)
    (hpl : (backTo cpos (starEach es X.env)).any (·.1) = false := by rfl) : PE X (.Call (.Attribute o name apos) (e :: es) [] cpos) (tBM K T r to t) := h ▸ pe_bm pa slot hty hm ho ha hbase hfew hline hs hpl
theorem peBm0 {o : Expr} {to : TE} {name : Str} {apos cpos : Pos} {T id : String} {r : V → List V → Hp → VK → Prop} (pa : PlainAttrs T) (slot : Slot T name id) (hty : typeOf (.builtin id) = pure (.type "method_descriptor")) (hm : MtR X id r) (ho : PE X o to) (h : X.K = K := by rfl)
    (hbase : attributeBase o name X.env (eval o X.env) = eval o X.env := by rfl) (hline : (apos.endLine == cpos.line) = true := by rfl) : PE X (.Call (.Attribute o name apos) [] [] cpos) (tBM0 K T r to) := h ▸ pe_bm0 pa slot hty hm ho hbase hline
theorem pgT {es : List Expr} {k : Nat} {pos : Pos} {t : TGs} {n : Nat} (hc : X.calm = true) (hh : PGs X es t) (h : X.K = K := by rfl)
    (hn : (assignEach es X.env).length = n := by rfl) (hst : (assignEach es X.env).findIdx? (·.1) = none := by rfl) : PG X (.Tuple es k pos) (gTup K n t) := h ▸ pg_tup hc hh hn hst
end

/-! ### the calculus -/
def Kc {α : Type} (m : Hp → (α → Hp → Prop) → Prop) (H : Hp) (P : α → Hp → Prop) : Prop := ∀ H1, Ex H H1 → ∀ Q : α → Hp → Prop, (∀ v H2, (∃ Hx, Ex Hx H2 ∧ P v Hx) → Q v H2) → m H1 Q
theorem kc_pure {α : Type} {v : α} {H : Hp} {P : α → Hp → Prop} (h : P v H) : Kc (fun H Q => Q v H) H P := fun H1 e _ k => k v H1 ⟨H, e, h⟩
theorem kc_bind {α β : Type} {m : Hp → (α → Hp → Prop) → Prop} {f : α → Hp → (β → Hp → Prop) → Prop} {H : Hp} {P : β → Hp → Prop} (h : Kc m H fun v Hx => Kc (f v) Hx P) : Kc (fun H Q => m H fun v H1 => f v H1 Q) H P := fun H1 e Q k =>
  h H1 e _ fun v H2 ⟨_, ex, hf⟩ => hf H2 ex Q k
theorem Kc.mono {α : Type} {m : Hp → (α → Hp → Prop) → Prop} {H H' : Hp} {P : α → Hp → Prop} (e : Ex H H') (h : Kc m H P) : Kc m H' P := fun H1 a Q k => h H1 (e.trans a) Q k
theorem Kc.imp {α : Type} {m : Hp → (α → Hp → Prop) → Prop} {H : Hp} {P P' : α → Hp → Prop} (h : Kc m H P) (i : ∀ v Hx, P v Hx → P' v Hx) : Kc m H P' := fun H1 a Q k => h H1 a Q fun v H2 ⟨Hx, ex, p⟩ => k v H2 ⟨Hx, ex, i v Hx p⟩
abbrev EvK (te : TE) (σ : L2.St) (H : Hp) (P : V → Hp → Prop) : Prop := Kc (te σ) H P
abbrev EvAK (ta : TA) (σ : L2.St) (H : Hp) (P : List V → Hp → Prop) : Prop := Kc (ta σ) H P
abbrev EvTK (tt : TT) (σ : L2.St) (H : Hp) (P : Bool → Hp → Prop) : Prop := Kc (tt σ) H P
abbrev EvOK (to : TO) (σ : L2.St) (H : Hp) (P : Option Int → Hp → Prop) : Prop := Kc (to σ) H P
abbrev RK (r : R2) (x y : V) (H : Hp) (P : V → Hp → Prop) : Prop := Kc (r x y) H P
abbrev CK (r : List V → Hp → VK → Prop) (vs : List V) (H : Hp) (P : V → Hp → Prop) : Prop := Kc (r vs) H P
abbrev MK (r : V → List V → Hp → VK → Prop) (x : V) (vs : List V) (H : Hp) (P : V → Hp → Prop) : Prop := Kc (r x vs) H P
def SpK (sp : Sp) (vs : List V) (H : Hp) (P : V → Hp → Prop) : Prop := ∀ E : XK, Kc (fun H Q => sp vs H Q E) H P
def Go (t : TS) (D : Ends) (σ : L2.St) (H : Hp) : Prop := ∀ H1, Ex H H1 → t D σ H1
/-- what is wished of a value at a heap that may have grown -/
def KQ (Q : VK) (v : V) (Hx : Hp) : Prop := ∀ H1, Ex Hx H1 → Q v H1
theorem KQ.up {Q : VK} {v : V} {H H' : Hp} (h : KQ Q v H) (e : Ex H H') : KQ Q v H' := fun H1 a => h H1 (e.trans a)
section
variable {K : PySem.W.Frag} {σ : L2.St} {H H' : Hp} {ta tb tc te tx : TE} {t u : TT} {x y z v : V} {r r' : R2} {P : V → Hp → Prop} {D : Ends}

/-! ### expressions -/
theorem k_var {i : Nat} (h : σ[i]? = some (some v)) (hp : P v H) : EvK (tVar i) σ H P := fun H1 e _ k => ⟨v, h, k v H1 ⟨H, e, hp⟩⟩
theorem k_c (hp : P v H) : EvK (tC v) σ H P := kc_pure hp
theorem k_op (h : EvK ta σ H fun x Hx => EvK tb σ Hx fun y Hy => RK r x y Hy P) : EvK (tOp r ta tb) σ H P := kc_bind (f := fun x H1 Q => tb σ H1 fun y H2 => r x y H2 Q) (h.imp fun _ _ h2 => kc_bind h2)
theorem k_un {ru : V → Hp → VK → Prop} (h : EvK ta σ H fun x Hx => Kc (ru x) Hx P) : EvK (tUn ru ta) σ H P := kc_bind (f := fun x H1 Q => ru x H1 Q) h
theorem k_cb {rc : List V → Hp → VK → Prop} {tl : TA} (h : EvAK tl σ H fun vs Hx => CK rc vs Hx P) : EvK (tCB rc tl) σ H P := kc_bind (f := fun vs H1 Q => rc vs H1 Q) h
theorem k_ckw {rc : List V → List V → Hp → VK → Prop} {tl tk : TA} (h : EvAK tl σ H fun vs Hx => EvAK tk σ Hx fun zs Hz => Kc (rc vs zs) Hz P) : EvK (tCKw rc tl tk) σ H P := kc_bind (f := fun vs H1 Q => tk σ H1 fun zs H2 => rc vs zs H2 Q) (h.imp fun _ _ h2 => kc_bind h2)
theorem k_call {sp : Sp} {dvs : List V} {E : XK} {tl : TA} (h : EvAK tl σ H fun vs Hx => SpK sp (vs ++ dvs) Hx P) : EvK (tCall sp dvs E tl) σ H P := kc_bind (f := fun vs H1 Q => sp (vs ++ dvs) H1 Q E) (h.imp fun _ _ h2 => h2 E)
theorem k_nil {PA : List V → Hp → Prop} (h : PA [] H) : EvAK tNil σ H PA := kc_pure h
theorem k_cons {tr : TA} {PA : List V → Hp → Prop} (h : EvK ta σ H fun x Hx => EvAK tr σ Hx fun vs Hy => PA (x :: vs) Hy) : EvAK (tCons ta tr) σ H PA :=
  kc_bind (f := fun x H1 Q => tr σ H1 fun xs H2 => Q (x :: xs) H2) (h.imp fun x _ h2 => kc_bind (f := fun xs H2 Q => Q (x :: xs) H2) (h2.imp fun _ _ h3 => kc_pure h3))
theorem k_tup {tl : TA} (h : EvAK tl σ H fun vs Hx => vs.length ≤ 100000 ∧ ∀ p, Hx p = none → P (.ref p) (upd Hx p (.tup vs))) : EvK (tTup tl) σ H P :=
  fun H1 e Q k => h H1 e _ fun vs H2 ⟨Hx, ex, hl, hp⟩ => ⟨sz_of hl, fun p np => k _ _ ⟨_, Ex.updm ex, hp p (fresh_back ex np)⟩⟩
theorem k_lst {tl : TA} (h : EvAK tl σ H fun vs Hx => vs.length ≤ 100000 ∧ ∀ p, Hx p = none → P (.ref p) (upd Hx p (.lst vs))) : EvK (tLst tl) σ H P :=
  fun H1 e Q k => h H1 e _ fun vs H2 ⟨Hx, ex, hl, hp⟩ => ⟨sz_of hl, fun p np => k _ _ ⟨_, Ex.updm ex, hp p (fresh_back ex np)⟩⟩
theorem k_chain (h : EvK ta σ H fun x Hx => EvK tb σ Hx fun y Hy => RK r x y Hy fun z Hz => ∃ b, z = .bl b ∧ (b = true → EvK tc σ Hz fun w Hw => RK r' y w Hw P) ∧ (b = false → P (.bl false) Hz)) : EvK (tChain r r' ta tb tc) σ H P :=
  fun H1 e Q k => h H1 e _ fun x H2 ⟨Hx, ex, h2⟩ => h2 H2 ex _ fun y H3 ⟨Hy, ey, h3⟩ => h3 H3 ey _ fun z H4 ⟨Hz, ez, b, eb, ht, hf⟩ => ⟨b, eb, by
    cases b with
    | true =>
      rw [if_pos rfl]
      exact ht rfl H4 ez _ fun w H5 ⟨Hw, ew, h5⟩ => h5 H5 ew Q k
    | false =>
      rw [if_neg Bool.false_ne_true]
      exact k _ _ ⟨Hz, ez, hf rfl⟩⟩
theorem k_andV (h : EvK ta σ H fun x Hx => ∃ b, x = .bl b ∧ (b = true → EvK tb σ Hx P) ∧ (b = false → P (.bl false) Hx)) : EvK (tAndV ta tb) σ H P :=
  fun H1 e Q k => h H1 e _ fun x H2 ⟨Hx, ex, b, eb, ht, hf⟩ => ⟨b, eb, by
    cases b with
    | true =>
      rw [if_pos rfl]
      exact ht rfl H2 ex Q k
    | false =>
      rw [if_neg Bool.false_ne_true]
      exact k _ _ ⟨Hx, ex, hf rfl⟩⟩
theorem k_orV (h : EvK ta σ H fun x Hx => ∃ b, x = .bl b ∧ (b = true → P (.bl true) Hx) ∧ (b = false → EvK tb σ Hx P)) : EvK (tOrV ta tb) σ H P :=
  fun H1 e Q k => h H1 e _ fun x H2 ⟨Hx, ex, b, eb, ht, hf⟩ => ⟨b, eb, by
    cases b with
    | true =>
      rw [if_pos rfl]
      exact k _ _ ⟨Hx, ex, ht rfl⟩
    | false =>
      rw [if_neg Bool.false_ne_true]
      exact hf rfl H2 ex Q k⟩
theorem k_notV (h : EvK ta σ H fun x Hx => ∃ b, x = .bl b ∧ P (.bl (!b)) Hx) : EvK (tNotV ta) σ H P :=
  fun H1 e Q k => h H1 e _ fun x H2 ⟨Hx, ex, b, eb, hp⟩ => ⟨b, eb, k _ _ ⟨Hx, ex, hp⟩⟩
theorem k_sl {rs : V → Option Int → Option Int → Hp → VK → Prop} {tl th : TO} (h : EvK te σ H fun x Hx => EvOK tl σ Hx fun l Hl => EvOK th σ Hl fun u Hu => Kc (rs x l u) Hu P) : EvK (tSl rs te tl th) σ H P :=
  fun H1 e Q k => h H1 e _ fun x H2 ⟨_, ex, h2⟩ => h2 H2 ex _ fun l H3 ⟨_, el, h3⟩ => h3 H3 el _ fun u H4 ⟨_, eu, h4⟩ => h4 H4 eu Q k
theorem k_nopart {PO : Option Int → Hp → Prop} (h : PO none H) : EvOK tNoPart σ H PO := kc_pure h
theorem k_part {PO : Option Int → Hp → Prop} (h : EvK te σ H fun x Hx => ∃ i, x = .int i ∧ PO (some i) Hx) : EvOK (tPart te) σ H PO :=
  fun H1 e Q k => h H1 e _ fun x H2 ⟨Hx, ex, i, ei, hp⟩ => ⟨i, ei, k _ _ ⟨Hx, ex, hp⟩⟩
theorem k_bm {T : String} {rm : V → List V → Hp → VK → Prop} {tl : TA} (h : EvK ta σ H fun x Hx => (∀ H1, Ex Hx H1 → tyV K T x H1) ∧ EvAK tl σ Hx fun vs Hy => MK rm x vs Hy P) : EvK (tBM K T rm ta tl) σ H P :=
  fun H1 e Q k => h H1 e _ fun x H2 ⟨Hx, ex, hty, h2⟩ => ⟨hty H2 ex, h2 H2 ex _ fun vs H3 ⟨Hy, ey, h3⟩ => h3 H3 ey Q k⟩
theorem k_bm0 {T : String} {rm : V → List V → Hp → VK → Prop} (h : EvK ta σ H fun x Hx => (∀ H1, Ex Hx H1 → tyV K T x H1) ∧ MK rm x [] Hx P) : EvK (tBM0 K T rm ta) σ H P :=
  fun H1 e Q k => h H1 e _ fun x H2 ⟨Hx, ex, hty, h2⟩ => ⟨hty H2 ex, h2 H2 ex Q k⟩
theorem tyl {a : Addr} {xs : List V} (h : SqL K H a xs) : ∀ H1, Ex H H1 → tyV K "list" (.ref a) H1 := fun H1 e => Or.inl ⟨rfl, _, ex_l e h⟩

/-! ### tests -/
theorem kt_test {PB : Bool → Hp → Prop} (h : EvK te σ H fun x Hx => ∃ b, x = .bl b ∧ PB b Hx) : EvTK (tTest te) σ H PB := fun H1 e Q k => h H1 e _ fun x H2 ⟨Hx, ex, b, eb, hp⟩ => ⟨b, eb, k _ _ ⟨Hx, ex, hp⟩⟩
theorem kt_B {PB : Bool → Hp → Prop} (h : EvK te σ H fun x Hx => ∃ b, x = .bl b ∧ PB b Hx) : EvTK (tB te) σ H PB := fun H1 e Q k => h H1 e _ fun x H2 ⟨Hx, ex, b, eb, hp⟩ => ⟨b, eb, k _ _ ⟨Hx, ex, hp⟩⟩
theorem kt_yes {PB : Bool → Hp → Prop} (h : PB true H) : EvTK tYes σ H PB := kc_pure h
theorem kt_and {PB : Bool → Hp → Prop} (h : EvTK t σ H fun b Hx => (b = true → EvTK u σ Hx PB) ∧ (b = false → PB false Hx)) : EvTK (tAnd t u) σ H PB := fun H1 e Q k => h H1 e _ fun b H2 ⟨Hx, ex, ht, hf⟩ => by
  cases b with
  | true =>
    rw [if_pos rfl]
    exact ht rfl H2 ex Q k
  | false =>
    rw [if_neg Bool.false_ne_true]
    exact k _ _ ⟨Hx, ex, hf rfl⟩
theorem kt_or {PB : Bool → Hp → Prop} (h : EvTK t σ H fun b Hx => (b = true → PB true Hx) ∧ (b = false → EvTK u σ Hx PB)) : EvTK (tOr t u) σ H PB := fun H1 e Q k => h H1 e _ fun b H2 ⟨Hx, ex, ht, hf⟩ => by
  cases b with
  | true =>
    rw [if_pos rfl]
    exact k _ _ ⟨Hx, ex, ht rfl⟩
  | false =>
    rw [if_neg Bool.false_ne_true]
    exact hf rfl H2 ex Q k
theorem kt_not {PB : Bool → Hp → Prop} (h : EvTK t σ H fun b Hx => PB (!b) Hx) : EvTK (tNot t) σ H PB := fun H1 e Q k => h H1 e _ fun b H2 ⟨Hx, ex, hp⟩ => k _ _ ⟨Hx, ex, hp⟩

/-! ### operations on values -/
theorem r_I0 {g : Int → Int → V} {i j : Int} (h : P (g i j) H) : RK (rI0 g) (.int i) (.int j) H P := fun H1 e Q k => ⟨i, j, rfl, rfl, k _ _ ⟨H, e, h⟩⟩
theorem r_I {C : Int → Int → Prop} {g : Int → Int → V} {i j : Int} (h : C i j ∧ P (g i j) H) : RK (rI C g) (.int i) (.int j) H P := fun H1 e Q k => ⟨i, j, rfl, rfl, h.1, k _ _ ⟨H, e, h.2⟩⟩
theorem r_I' {C : Int → Int → Prop} {g : Int → Int → V} {i j : Int} (h : P (g i j) H) (hc : C i j) : RK (rI C g) (.int i) (.int j) H P := r_I ⟨hc, h⟩
theorem r_eq (h : scal x y = true ∧ P (.bl (decide (x = y))) H) : RK rEq x y H P := fun H1 e Q k => ⟨h.1, k _ _ ⟨H, e, h.2⟩⟩
theorem r_ne (h : scal x y = true ∧ P (.bl (!decide (x = y))) H) : RK rNe x y H P := fun H1 e Q k => ⟨h.1, k _ _ ⟨H, e, h.2⟩⟩
theorem r_eqI {i j : Int} (h : P (.bl (decide (i = j))) H) : RK rEq (.int i) (.int j) H P := r_eq ⟨rfl, by
  have e : decide (V.int i = V.int j) = decide (i = j) := by
    by_cases c : i = j
    · subst c
      rw [decide_eq_true rfl, decide_eq_true rfl]
    · rw [decide_eq_false c, decide_eq_false fun z => c (V.int.inj z)]
  rw [e]
  exact h⟩
theorem r_neI {i j : Int} (h : P (.bl (!decide (i = j))) H) : RK rNe (.int i) (.int j) H P := r_ne ⟨rfl, by
  have e : decide (V.int i = V.int j) = decide (i = j) := by
    by_cases c : i = j
    · subst c
      rw [decide_eq_true rfl, decide_eq_true rfl]
    · rw [decide_eq_false c, decide_eq_false fun z => c (V.int.inj z)]
  rw [e]
  exact h⟩
theorem r_neg {i : Int} (h : P (.int (-i)) H) : Kc (rU (fun i => V.int (-i)) (.int i)) H P := fun H1 e Q k => ⟨i, rfl, k _ _ ⟨H, e, h⟩⟩
theorem r_ixL {p : Addr} {xs : List V} {i : Int} (h : SqL K H p xs) (ha : atI xs i = some v) (hp : P v H) : RK (rIxL K) (.ref p) (.int i) H P := fun H1 e Q k => ⟨p, xs, i, v, rfl, rfl, ex_l e h, ha, k _ _ ⟨H, e, hp⟩⟩
theorem r_ixT {p : Addr} {xs : List V} {i : Int} (h : SqT K H p xs) (ha : atI xs i = some v) (hp : P v H) : RK (rIxT K) (.ref p) (.int i) H P := fun H1 e Q k => ⟨p, xs, i, v, rfl, rfl, ex_t e h, ha, k _ _ ⟨H, e, hp⟩⟩
theorem r_slL {p : Addr} {xs : List V} {lo hi : Option Int} (h : SqL K H p xs) (hp : ∀ q, H q = none → P (.ref q) (upd H q (.lst (cutV xs lo hi)))) : Kc (rSlL K (.ref p) lo hi) H P := fun H1 e Q k => ⟨p, xs, rfl, ex_l e h, fun q nq => k _ _ ⟨_, Ex.updm e, hp q (fresh_back e nq)⟩⟩
theorem r_isN (h : P (.bl (decide (x = .non))) H) : RK (fun x y H Q => y = .non ∧ Q (.bl (decide (x = .non))) H) x .non H P := fun H1 e Q k => ⟨rfl, k _ _ ⟨H, e, h⟩⟩
theorem r_notN (h : P (.bl (!decide (x = .non))) H) : RK (fun x y H Q => y = .non ∧ Q (.bl (!decide (x = .non))) H) x .non H P := fun H1 e Q k => ⟨rfl, k _ _ ⟨H, e, h⟩⟩
theorem r_isB {a b : Bool} (h : P (.bl (decide (a = b))) H) : RK rIsB (.bl a) (.bl b) H P := fun H1 e Q k => ⟨a, b, rfl, rfl, k _ _ ⟨H, e, h⟩⟩
mutual
theorem dp_ex {H H1 : Hp} (e : Ex H H1) : ∀ {v : V} {d : PyData}, Dp K H v d → Dp K H1 v d
  | _, _, .non => .non
  | _, _, .bl b => .bl b
  | _, _, .int i => .int i
  | _, _, .str x => .str x
  | _, _, .lst h k => .lst (ex_l e h) (dpa_ex e k)
  | _, _, .tup h k => .tup (ex_t e h) (dpa_ex e k)
theorem dpa_ex {H H1 : Hp} (e : Ex H H1) : ∀ {vs : List V} {ds : List PyData}, DpAll K H vs ds → DpAll K H1 vs ds
  | _, _, .nil => .nil
  | _, _, .cons h k => .cons (dp_ex e h) (dpa_ex e k)
end
theorem r_eqD {d d' : PyData} (h1 : Dp K H x d) (h2 : Dp K H y d') (s1 : SeqAt.shaped d = true) (s2 : SeqAt.shaped d' = true) (hp : P (.bl (PyData.eqv d d')) H) : RK (rEqD K) x y H P := fun H1 e Q k => ⟨d, d', dp_ex e h1, dp_ex e h2, s1, s2, k _ _ ⟨H, e, hp⟩⟩
theorem r_neD {d d' : PyData} (h1 : Dp K H x d) (h2 : Dp K H y d') (s1 : SeqAt.shaped d = true) (s2 : SeqAt.shaped d' = true) (hp : P (.bl (!PyData.eqv d d')) H) : RK (rNeD K) x y H P := fun H1 e Q k => ⟨d, d', dp_ex e h1, dp_ex e h2, s1, s2, k _ _ ⟨H, e, hp⟩⟩
theorem eqv_self {d : PyData} (h : SeqAt.shaped d = true) : PyData.eqv d d = true := SeqAt.eqv_refl d (SeqAt.canLay_of_shaped h)
/-- both the same data -/
theorem r_eqS {d : PyData} (h1 : Dp K H x d) (h2 : Dp K H y d) (s1 : SeqAt.shaped d = true) (hp : P (.bl true) H) : RK (rEqD K) x y H P := r_eqD h1 h2 s1 s1 (by rw [eqv_self s1]; exact hp)
theorem r_neS {d : PyData} (h1 : Dp K H x d) (h2 : Dp K H y d) (s1 : SeqAt.shaped d = true) (hp : P (.bl false) H) : RK (rNeD K) x y H P := r_neD h1 h2 s1 s1 (by rw [eqv_self s1]; exact hp)
theorem dpa_ints : ∀ ns : List Int, DpAll K H (ns.map V.int) (ns.map PyData.int)
  | [] => .nil
  | n :: ns => .cons (.int n) (dpa_ints ns)
theorem dp_ints {a : Addr} {ns : List Int} (h : SqL K H a (ns.map V.int)) : Dp K H (.ref a) (.list (ns.map PyData.int)) := .lst h (dpa_ints ns)
theorem lay_ints : ∀ ns : List Int, PyData.canLayAll0 (ns.map PyData.int) = true
  | [] => rfl
  | n :: ns => by
    show (PyData.canLay0 (.int n) && PyData.canLayAll0 (ns.map PyData.int)) = true
    rw [lay_ints ns]
    rfl
theorem dep_ints : ∀ ns : List Int, PyData.depthAll (ns.map PyData.int) = 0
  | [] => rfl
  | n :: ns => by
    show max (PyData.depth (.int n)) (PyData.depthAll (ns.map PyData.int)) = 0
    rw [dep_ints ns]
    rfl
theorem sh_ints (ns : List Int) : SeqAt.shaped (.list (ns.map PyData.int)) = true := by
  show (PyData.canLayAll0 (ns.map PyData.int) && decide (PyData.depthAll (ns.map PyData.int) + 1 ≤ 64)) = true
  rw [lay_ints, dep_ints]
  rfl
/-- two lists of the same whole numbers -/
theorem r_eqI2 {a b : Addr} {ns : List Int} (h1 : SqL K H a (ns.map V.int)) (h2 : SqL K H b (ns.map V.int)) (hp : P (.bl true) H) : RK (rEqD K) (.ref a) (.ref b) H P := r_eqS (dp_ints h1) (dp_ints h2) (sh_ints ns) hp
theorem r_neI2 {a b : Addr} {ns : List Int} (h1 : SqL K H a (ns.map V.int)) (h2 : SqL K H b (ns.map V.int)) (hp : P (.bl false) H) : RK (rNeD K) (.ref a) (.ref b) H P := r_neS (dp_ints h1) (dp_ints h2) (sh_ints ns) hp
theorem r_cat {l b : Addr} {xs zs : List V} (h1 : H l = some (.lst xs)) (h2 : H b = some (.lst zs)) (hz : xs.length + zs.length ≤ 100000) (hp : ∀ p, H p = none → P (.ref p) (upd H p (.lst (xs ++ zs)))) : RK rCat (.ref l) (.ref b) H P := fun H1 e Q k =>
  ⟨l, b, xs, zs, rfl, rfl, e _ _ h1, e _ _ h2, sz_of hz, fun p np => k _ _ ⟨_, Ex.updm e, hp p (fresh_back e np)⟩⟩

theorem cut_from (xs : List V) : cutV xs (some 1) none = xs.drop 1 := by
  unfold cutV
  rw [show HT.sIx xs.length 0 (some 1) = min 1 xs.length from HT.sIx_nat xs.length 0 1, HT.sIx_none]
  cases xs with
  | nil => rfl
  | cons x r =>
    rw [show min 1 (x :: r).length = 1 by
      rw [List.length_cons]
      omega]
    show (List.take ((x :: r).length - 1) r) = r
    rw [List.length_cons, Nat.add_sub_cancel]
    exact List.take_length

theorem cut_to {xs : List V} {k : Nat} (h : k ≤ xs.length) : cutV xs none (some (k : Int)) = xs.take k := by
  unfold cutV
  rw [show HT.sIx xs.length xs.length (some (k : Int)) = min k xs.length from HT.sIx_nat xs.length xs.length k, HT.sIx_none, Nat.min_eq_left h, List.drop_zero, Nat.sub_zero]

theorem cut_ints (ns : List Int) (lo hi : Option Int) : ∃ cs : List Int, cutV (ns.map V.int) lo hi = cs.map V.int ∧ (∀ z ∈ cs, z ∈ ns) ∧ cs.length ≤ ns.length := by
  unfold cutV
  rw [← List.map_drop, ← List.map_take]
  refine ⟨_, rfl, fun z hz => List.mem_of_mem_drop (List.mem_of_mem_take hz), ?_⟩
  rw [List.length_take, List.length_drop]
  omega

/-! ### calls of built-ins -/
theorem c_len {p : Addr} {xs : List V} (h : SqL K H p xs) (hp : P (.int xs.length) H) : CK (rLn K) [.ref p] H P := fun H1 e Q k => ⟨p, xs, rfl, .inl (ex_l e h), k _ _ ⟨H, e, hp⟩⟩
theorem c_lenT {p : Addr} {xs : List V} (h : SqT K H p xs) (hp : P (.int xs.length) H) : CK (rLn K) [.ref p] H P := fun H1 e Q k => ⟨p, xs, rfl, .inr (ex_t e h), k _ _ ⟨H, e, hp⟩⟩
theorem c_list {p : Addr} {xs : List V} (h : SqL K H p xs) (hp : ∀ q, H q = none → P (.ref q) (upd H q (.lst xs))) : CK (rLs K) [.ref p] H P := fun H1 e Q k => ⟨p, xs, rfl, .inl (ex_l e h), fun q nq => k _ _ ⟨_, Ex.updm e, hp q (fresh_back e nq)⟩⟩
theorem c_sum {p : Addr} {ns : List Int} (h : SqL K H p (ns.map V.int)) (hp : P (.int ns.sum) H) : CK (rSum K) [.ref p] H P := fun H1 e Q k => ⟨p, ns, rfl, ex_l e h, k _ _ ⟨H, e, hp⟩⟩
theorem c_min {p : Addr} {ns : List Int} (h : SqL K H p (ns.map V.int)) (h0 : 0 < ns.length) (hp : ∀ m, m ∈ ns → (∀ y, y ∈ ns → m ≤ y) → P (.int m) H) : CK (rMin K) [.ref p] H P := fun H1 e Q k => ⟨p, ns, rfl, ex_l e h, h0, fun m hm hl => k _ _ ⟨H, e, hp m hm hl⟩⟩
theorem c_max {p : Addr} {ns : List Int} (h : SqL K H p (ns.map V.int)) (h0 : 0 < ns.length) (hp : ∀ m, m ∈ ns → (∀ y, y ∈ ns → y ≤ m) → P (.int m) H) : CK (rMax K) [.ref p] H P := fun H1 e Q k => ⟨p, ns, rfl, ex_l e h, h0, fun m hm hl => k _ _ ⟨H, e, hp m hm hl⟩⟩
theorem c_max2 {i j : Int} (hp : P (.int (if j > i then j else i)) H) : CK (fun xs H Q => ∃ i j, xs = [.int i, .int j] ∧ Q (.int (if j > i then j else i)) H) [.int i, .int j] H P := fun H1 e Q k => ⟨i, j, rfl, k _ _ ⟨H, e, hp⟩⟩
theorem c_min2 {i j : Int} (hp : P (.int (if j < i then j else i)) H) : CK (fun xs H Q => ∃ i j, xs = [.int i, .int j] ∧ Q (.int (if j < i then j else i)) H) [.int i, .int j] H P := fun H1 e Q k => ⟨i, j, rfl, k _ _ ⟨H, e, hp⟩⟩
theorem c_intB {b : Bool} (hp : P (.int (if b then 1 else 0)) H) : CK (fun xs H Q => (∃ i, xs = [.int i] ∧ Q (.int i) H) ∨ ∃ k, xs = [.bl k] ∧ Q (.int (if k then 1 else 0)) H) [.bl b] H P := fun H1 e Q k => .inr ⟨b, rfl, k _ _ ⟨H, e, hp⟩⟩
theorem tyx_ex {H1 : Hp} (e : Ex H H1) {t : Value} (h : TyX K H x t) : TyX K H1 x t := by
  cases h with
  | base b =>
    refine .base ?_
    cases b with
    | non => exact .non
    | bl y => exact .bl y
    | int i => exact .int i
    | str y => exact .str y
    | flt y => exact .flt y
    | lst ea => exact .lst (e _ _ ea)
    | frz ea => exact .frz (e _ _ ea)
    | tup ea => exact .tup (e _ _ ea)
    | dK ea => exact .dK (e _ _ ea)
    | dT ea => exact .dT (e _ _ ea)
    | ins ea cl ha hn htk hm => exact .ins (e _ _ ea) cl ha hn htk hm
  | byt y => exact .byt y
  | set ea => exact .set (e _ _ ea)
  | kList ea c => exact .kList ea c
  | kTuple ea c => exact .kTuple ea c
  | kDict ea c => exact .kDict ea c
  | fTuple ea => exact .fTuple (e _ _ ea)
  | fDict ea => exact .fDict (e _ _ ea)
theorem c_isi {n : String} {a : String} {b : Bool} (ty : TyX K H x (.type a)) (hk : kitB a n = some b) (hp : P (.bl b) H) : CK (rIsi K) [x, .ty n] H P := fun H1 e Q k => ⟨x, .ty n, .type a, .type n, b, rfl, .ty n, tyx_ex e ty, kit_ty hk, k _ _ ⟨H, e, hp⟩⟩
theorem ty_lst {a : Addr} {xs : List V} (h : H a = some (.lst xs)) : TyX K H (.ref a) (.type "list") := .base (.lst h)
theorem ty_tup {a : Addr} {xs : List V} (h : H a = some (.tup xs)) : TyX K H (.ref a) (.type "tuple") := .base (.tup h)
theorem c_list_list {a : Addr} {xs : List V} (h : H a = some (.lst xs)) (hp : P (.bl true) H) : CK (rIsi K) [.ref a, .ty "list"] H P := c_isi (ty_lst h) (by decide +kernel) hp
theorem c_tup_tup {a : Addr} {xs : List V} (h : H a = some (.tup xs)) (hp : P (.bl true) H) : CK (rIsi K) [.ref a, .ty "tuple"] H P := c_isi (ty_tup h) (by decide +kernel) hp
theorem c_int_int {i : Int} (hp : P (.bl true) H) : CK (rIsi K) [.int i, .ty "int"] H P := c_isi (.base (.int i)) (by decide +kernel) hp
theorem c_int_bool {i : Int} (hp : P (.bl false) H) : CK (rIsi K) [.int i, .ty "bool"] H P := c_isi (.base (.int i)) (by decide +kernel) hp
theorem c_bl_bool {i : Bool} (hp : P (.bl true) H) : CK (rIsi K) [.bl i, .ty "bool"] H P := c_isi (.base (.bl i)) (by decide +kernel) hp
theorem c_str_str {i : Str} (hp : P (.bl true) H) : CK (rIsi K) [.str i, .ty "str"] H P := c_isi (.base (.str i)) (by decide +kernel) hp
theorem c_non_int (hp : P (.bl false) H) : CK (rIsi K) [.non, .ty "int"] H P := c_isi (.base .non) (by decide +kernel) hp

/-! ### methods of lists -/
theorem m_append {l : Addr} {xs : List V} (h : H l = some (.lst xs)) (hz : xs.length < 100000) (hp : P .non (upd H l (.lst (xs ++ [y])))) : MK rAppend (.ref l) [y] H P := fun H1 e Q k => ⟨l, xs, y, rfl, rfl, e _ _ h, sz_lt hz, k _ _ ⟨_, Ex.updm e, hp⟩⟩
theorem m_reverse {l : Addr} {xs : List V} (h : H l = some (.lst xs)) (hp : P .non (upd H l (.lst xs.reverse))) : MK rReverse (.ref l) [] H P := fun H1 e Q k => ⟨l, xs, rfl, rfl, e _ _ h, k _ _ ⟨_, Ex.updm e, hp⟩⟩
theorem m_clear {l : Addr} {xs : List V} (h : H l = some (.lst xs)) (hp : P .non (upd H l (.lst []))) : MK rClear (.ref l) [] H P := fun H1 e Q k => ⟨l, xs, rfl, rfl, e _ _ h, k _ _ ⟨_, Ex.updm e, hp⟩⟩

/-! ### statements -/
theorem Go.here {s : TS} (h : Go s D σ H) : s D σ H := h H (Ex.refl H)
theorem Go.mono {s : TS} (h : Go s D σ H) (e : Ex H H') : Go s D σ H' := fun H1 a => h H1 (e.trans a)
variable {s s2 w : TS}
/-- a statement ahead of w -/
theorem gs_asg {i : Nat} (h : EvK te σ H fun v Hx => Go w D (σ.set i (some v)) Hx) : Go (tSeq (tAsg te (gName i)) w) D σ H := fun H1 e => h H1 e _ fun v H2 ⟨_, ex, g⟩ => g H2 ex
theorem gs_drop (h : EvK te σ H fun _ Hx => Go w D σ Hx) : Go (tSeq (tDrop te) w) D σ H := fun H1 e => h H1 e _ fun v H2 ⟨_, ex, g⟩ => g H2 ex
theorem gs_if (h : EvTK t σ H fun b Hx => (b = true → Go s { D with nx := w D } σ Hx) ∧ (b = false → Go s2 { D with nx := w D } σ Hx)) : Go (tSeq (tIfS t s s2) w) D σ H := fun H1 e => h H1 e _ fun b H2 ⟨Hx, ex, ht, hf⟩ => by
  cases b with
  | true =>
    rw [if_pos rfl]
    exact ht rfl H2 ex
  | false =>
    rw [if_neg Bool.false_ne_true]
    exact hf rfl H2 ex
theorem gs_when (h : EvTK t σ H fun b Hx => (b = true → Go s { D with nx := w D } σ Hx) ∧ (b = false → Go w D σ Hx)) : Go (tSeq (tIfS t s tNext) w) D σ H := gs_if h
/-- the last statement of a block -/
theorem g1_asg {i : Nat} (h : EvK te σ H fun v Hx => ∀ H1, Ex Hx H1 → D.nx (σ.set i (some v)) H1) : Go (tAsg te (gName i)) D σ H := fun H1 e => h H1 e _ fun v H2 ⟨_, ex, g⟩ => g H2 ex
theorem g1_drop (h : EvK te σ H fun _ Hx => ∀ H1, Ex Hx H1 → D.nx σ H1) : Go (tDrop te) D σ H := fun H1 e => h H1 e _ fun v H2 ⟨_, ex, g⟩ => g H2 ex
theorem g1_ret (h : EvK te σ H (KQ D.rt)) : Go (tRet te) D σ H := fun H1 e => h H1 e _ fun v H2 ⟨_, ex, g⟩ => g H2 ex
theorem g1_if (h : EvTK t σ H fun b Hx => (b = true → Go s D σ Hx) ∧ (b = false → Go s2 D σ Hx)) : Go (tIfS t s s2) D σ H := fun H1 e => h H1 e _ fun b H2 ⟨Hx, ex, ht, hf⟩ => by
  cases b with
  | true =>
    rw [if_pos rfl]
    exact ht rfl H2 ex
  | false =>
    rw [if_neg Bool.false_ne_true]
    exact hf rfl H2 ex
theorem g1_next (h : ∀ H1, Ex H H1 → D.nx σ H1) : Go tNext D σ H := h
/-- the last statement of a block within a block: then w -/
theorem g2_asg {i : Nat} (h : EvK te σ H fun v Hx => Go w D (σ.set i (some v)) Hx) : Go (tAsg te (gName i)) { D with nx := w D } σ H := g1_asg h
theorem g2_drop (h : EvK te σ H fun _ Hx => Go w D σ Hx) : Go (tDrop te) { D with nx := w D } σ H := g1_drop h
theorem g2_next (h : Go w D σ H) : Go tNext { D with nx := w D } σ H := h
/-- what stands behind, shown once -/
theorem gs_cut (R : Go w D σ H) (h : Go w D σ H → Go (tSeq s w) D σ H) : Go (tSeq s w) D σ H := h R
/-- a, b = b, a -/
theorem gs_par {i j : Nat} {tl : TA} (h : EvAK tl σ H fun vs Hx => ∃ v z, vs = [v, z] ∧ Go w D ((σ.set i (some v)).set j (some z)) Hx) : Go (tSeq (tPar i j tl) w) D σ H := fun H1 e => h H1 e _ fun vs H2 ⟨_, ex, v, z, ev, g⟩ => ⟨v, z, ev, g H2 ex⟩
theorem g1_par {i j : Nat} {tl : TA} (h : EvAK tl σ H fun vs Hx => ∃ v z, vs = [v, z] ∧ ∀ H1, Ex Hx H1 → D.nx ((σ.set i (some v)).set j (some z)) H1) : Go (tPar i j tl) D σ H := fun H1 e => h H1 e _ fun vs H2 ⟨_, ex, v, z, ev, g⟩ => ⟨v, z, ev, g H2 ex⟩
theorem g2_par {i j : Nat} {tl : TA} (h : EvAK tl σ H fun vs Hx => ∃ v z, vs = [v, z] ∧ Go w D ((σ.set i (some v)).set j (some z)) Hx) : Go (tPar i j tl) { D with nx := w D } σ H := g1_par h
/-- o[i] = e -/
theorem gs_set (h : EvK te σ H fun v Hv => EvK ta σ Hv fun o Ho => EvK tb σ Ho fun i Hi => ∃ l xs n j, o = .ref l ∧ i = .int n ∧ Hi l = some (.lst xs) ∧ ixN xs.length n = some j ∧ Go w D σ (upd Hi l (.lst (xs.set j v)))) : Go (tSeq (tAsg te (gSub ta tb rSetL)) w) D σ H := fun H1 e =>
  h H1 e _ fun v H2 ⟨_, e2, h2⟩ => h2 H2 e2 _ fun o H3 ⟨_, e3, h3⟩ => h3 H3 e3 _ fun i H4 ⟨Hi, e4, l, xs, n, j, eo, ei, hl, hj, g⟩ => ⟨l, xs, n, j, eo, ei, e4 _ _ hl, hj, g _ (Ex.updm e4)⟩
theorem g1_set (h : EvK te σ H fun v Hv => EvK ta σ Hv fun o Ho => EvK tb σ Ho fun i Hi => ∃ l xs n j, o = .ref l ∧ i = .int n ∧ Hi l = some (.lst xs) ∧ ixN xs.length n = some j ∧ ∀ H1, Ex (upd Hi l (.lst (xs.set j v))) H1 → D.nx σ H1) : Go (tAsg te (gSub ta tb rSetL)) D σ H := fun H1 e =>
  h H1 e _ fun v H2 ⟨_, e2, h2⟩ => h2 H2 e2 _ fun o H3 ⟨_, e3, h3⟩ => h3 H3 e3 _ fun i H4 ⟨Hi, e4, l, xs, n, j, eo, ei, hl, hj, g⟩ => ⟨l, xs, n, j, eo, ei, e4 _ _ hl, hj, g _ (Ex.updm e4)⟩

theorem g2_set (h : EvK te σ H fun v Hv => EvK ta σ Hv fun o Ho => EvK tb σ Ho fun i Hi => ∃ l xs n j, o = .ref l ∧ i = .int n ∧ Hi l = some (.lst xs) ∧ ixN xs.length n = some j ∧ Go w D σ (upd Hi l (.lst (xs.set j v)))) : Go (tAsg te (gSub ta tb rSetL)) { D with nx := w D } σ H := g1_set h

/-! ### loops: a word (Pv) of the turn, the slots and the smallest heap -/
/-- a state that the word allows, the heap grown -/
def Lp (Pv : Nat → L2.St → Hp → Prop) (i : Nat) (σ : L2.St) (H : Hp) : Prop := ∃ Hx, Ex Hx H ∧ Pv i σ Hx
theorem gs_forL {a : Addr} {xs : List V} {j : Nat} (Pv : Nat → L2.St → Hp → Prop) (h : EvK te σ H fun v Hx => v = .ref a ∧ SqL K Hx a xs ∧ Pv 0 σ Hx) (hl : ∀ i σ' H', i ≤ xs.length → Pv i σ' H' → SqL K H' a xs)
    (hs : ∀ i x σ' H', xs[i]? = some x → Pv i σ' H' → Go s { D with nx := Lp Pv (i + 1), ct := Lp Pv (i + 1), bk := w D } (σ'.set j (some x)) H') (hd : ∀ σ' H', Pv xs.length σ' H' → Go w D σ' H') : Go (tSeq (tFor (iList K te) (gName j) s) w) D σ H := fun H1 e =>
  h H1 e _ fun v H2 ⟨Hx, ex, ev, hq, h0⟩ => ⟨a, ev, ⟨xs, ex_l ex hq⟩, for_list (D := { D with nx := w D }) (Lp Pv) ⟨Hx, ex, h0⟩ (fun i σ' H' hi ⟨Hy, ey, p⟩ => ex_l ey (hl i σ' Hy hi p)) (fun i x σ' H' hi ⟨Hy, ey, p⟩ => hs i x σ' Hy hi p H' ey) (fun σ' H' ⟨Hy, ey, p⟩ => hd σ' Hy p H' ey)⟩
/-- over a list that is made on the way -/
theorem gs_forF {j : Nat} (h : EvK te σ H fun v Hx => ∃ (a : Addr) (xs : List V) (Pv : Nat → L2.St → Hp → Prop), v = .ref a ∧ SqL K Hx a xs ∧ Pv 0 σ Hx ∧ (∀ i σ' H', i ≤ xs.length → Pv i σ' H' → SqL K H' a xs) ∧
    (∀ i x σ' H', xs[i]? = some x → Pv i σ' H' → Go s { D with nx := Lp Pv (i + 1), ct := Lp Pv (i + 1), bk := w D } (σ'.set j (some x)) H') ∧ (∀ σ' H', Pv xs.length σ' H' → Go w D σ' H')) : Go (tSeq (tFor (iList K te) (gName j) s) w) D σ H := fun H1 e =>
  h H1 e _ fun v H2 ⟨Hx, ex, a, xs, Pv, ev, hq, h0, hl, hs, hd⟩ => ⟨a, ev, ⟨xs, ex_l ex hq⟩, for_list (D := { D with nx := w D }) (Lp Pv) ⟨Hx, ex, h0⟩ (fun i σ' H' hi ⟨Hy, ey, p⟩ => ex_l ey (hl i σ' Hy hi p)) (fun i x σ' H' hi ⟨Hy, ey, p⟩ => hs i x σ' Hy hi p H' ey) (fun σ' H' ⟨Hy, ey, p⟩ => hd σ' Hy p H' ey)⟩
theorem g1_forL {a : Addr} {xs : List V} {j : Nat} (Pv : Nat → L2.St → Hp → Prop) (h : EvK te σ H fun v Hx => v = .ref a ∧ SqL K Hx a xs ∧ Pv 0 σ Hx) (hl : ∀ i σ' H', i ≤ xs.length → Pv i σ' H' → SqL K H' a xs)
    (hs : ∀ i x σ' H', xs[i]? = some x → Pv i σ' H' → Go s { D with nx := Lp Pv (i + 1), ct := Lp Pv (i + 1), bk := D.nx } (σ'.set j (some x)) H') (hd : ∀ σ' H', Pv xs.length σ' H' → ∀ H1, Ex H' H1 → D.nx σ' H1) : Go (tFor (iList K te) (gName j) s) D σ H := fun H1 e =>
  h H1 e _ fun v H2 ⟨Hx, ex, ev, hq, h0⟩ => ⟨a, ev, ⟨xs, ex_l ex hq⟩, for_list (Lp Pv) ⟨Hx, ex, h0⟩ (fun i σ' H' hi ⟨Hy, ey, p⟩ => ex_l ey (hl i σ' Hy hi p)) (fun i x σ' H' hi ⟨Hy, ey, p⟩ => hs i x σ' Hy hi p H' ey) (fun σ' H' ⟨Hy, ey, p⟩ => hd σ' Hy p H' ey)⟩
theorem gs_forR {n : Int} {tl : TA} {j : Nat} (Pv : Nat → L2.St → Hp → Prop) (h : EvAK tl σ H fun vs Hx => vs = [.int n] ∧ n ≤ 100000 ∧ 0 ≤ n ∧ Pv 0 σ Hx)
    (hs : ∀ (i : Nat) σ' H', (i : Int) < n → Pv i σ' H' → Go s { D with nx := Lp Pv (i + 1), ct := Lp Pv (i + 1), bk := w D } (σ'.set j (some (.int (i : Int)))) H') (hd : ∀ σ' H', Pv n.toNat σ' H' → Go w D σ' H') : Go (tSeq (tFor (iRng1 tl) (gName j) s) w) D σ H := fun H1 e =>
  h H1 e _ fun vs H2 ⟨Hx, ex, ev, hn, hn0, h0⟩ => ⟨n, ev, by omega, by omega, for_range (D := { D with nx := w D }) (lo := 0) (n := n.toNat) (Lp Pv) ⟨Hx, ex, h0⟩ (fun i σ' H' hi ⟨Hy, ey, p⟩ => by
    have e0 : (0 : Int) + (i : Int) = (i : Int) := Int.zero_add _
    show s _ (σ'.set j (some (.int ((0 : Int) + (i : Int))))) H'
    rw [e0]
    exact hs i σ' Hy (by omega) p H' ey) (fun σ' H' ⟨Hy, ey, p⟩ => hd σ' Hy p H' ey)⟩
theorem gs_forR2 {lo n : Int} {tl : TA} {j : Nat} (Pv : Nat → L2.St → Hp → Prop) (h : EvAK tl σ H fun vs Hx => vs = [.int lo, .int n] ∧ (0 ≤ lo ∧ lo ≤ 100000 ∧ -100000 ≤ n ∧ n ≤ 100000) ∧ Pv 0 σ Hx)
    (hs : ∀ (i : Nat) σ' H', lo + (i : Int) < n → Pv i σ' H' → Go s { D with nx := Lp Pv (i + 1), ct := Lp Pv (i + 1), bk := w D } (σ'.set j (some (.int (lo + (i : Int))))) H') (hd : ∀ σ' H', Pv (n - lo).toNat σ' H' → Go w D σ' H') : Go (tSeq (tFor (iRng2 tl) (gName j) s) w) D σ H := fun H1 e =>
  h H1 e _ fun vs H2 ⟨Hx, ex, ev, hn, h0⟩ => ⟨lo, n, ev, ⟨by omega, by omega, by omega, by omega⟩, for_range (D := { D with nx := w D }) (lo := lo) (n := (n - lo).toNat) (Lp Pv) ⟨Hx, ex, h0⟩ (fun i σ' H' hi ⟨Hy, ey, p⟩ => hs i σ' Hy (by omega) p H' ey) (fun σ' H' ⟨Hy, ey, p⟩ => hd σ' Hy p H' ey)⟩

/-! ### comprehensions: [e for x in range(n)], [e for x in xs]; the elements v i -/
/-- the words of an element: at any heap that has grown, the value alone -/
theorem k_lcR {n : Int} {tl : TA} {j : Nat} {vs : List Nat} (f : Nat → V) (h : EvAK tl σ H fun ws Hx => ws = [.int n] ∧ n ≤ 40000 ∧ 0 ≤ n ∧ (∀ x, wipe ((wipe σ vs).set j (some x)) vs = wipe σ vs) ∧ (∀ (i : Nat) Hz, (i : Int) < n → Ex Hx Hz → EvK te ((wipe σ vs).set j (some (.int (i : Int)))) Hz fun v Hy => v = f i ∧ Hy = Hz) ∧ ∀ p, Hx p = none → P (.ref p) (upd Hx p (.lst ((List.range n.toNat).map f)))) :
    EvK (tLc (iRng1 tl) (gName j) tYes te vs) σ H P := fun H1 e Q k =>
  h H1 e _ fun ws H2 ⟨Hx, ex, ev, hn, hn0, hw, hs, hd⟩ => ⟨n, ev, by omega, by omega, fun p np => by
    have npx : Hx p = none := fresh_back ex np
    refine lc_range (lo := 0) (n := n.toNat) (fun i H' => Ex (upd Hx p (.lst ((List.range i).map f))) H') (Ex.updm ex) (fun i H' hi p' => ?_) (fun H' p' => k _ _ ⟨_, p', hd p npx⟩)
    have e0 : (0 : Int) + (i : Int) = (i : Int) := Int.zero_add _
    show wipe ((wipe σ vs).set j (some (.int ((0 : Int) + (i : Int))))) vs = wipe σ vs ∧ te ((wipe σ vs).set j (some (.int ((0 : Int) + (i : Int))))) H' fun y H4 => ∃ acc, H4 p = some (.lst acc) ∧ acc.length < sizeLine ∧ Ex (upd Hx p (.lst ((List.range (i + 1)).map f))) (upd H4 p (.lst (acc ++ [y])))
    rw [e0]
    refine ⟨hw _, hs i (upd Hx p (.lst ((List.range i).map f))) (by omega) (Ex.new npx) H' p' _ ?_⟩
    rintro y H4 ⟨Hy, ey, rfl, rfl⟩
    refine ⟨_, ey p _ upd_same, sz_lt (by rw [List.length_map, List.length_range]; omega), ?_⟩
    have e5 : (List.range (i + 1)).map f = (List.range i).map f ++ [f i] := by rw [List.range_succ, List.map_append]; rfl
    rw [e5]
    exact Ex.updm (fun a u q => by
      by_cases ha : a = p
      · subst ha
        rw [npx] at q
        cases q
      · exact ey a u (by rw [upd_ne ha]; exact q))⟩
theorem k_lcL {a : Addr} {xs : List V} {j : Nat} {vs : List Nat} {tl : TE} (f : Nat → V → V) (h : EvK tl σ H fun w Hx => w = .ref a ∧ SqL K Hx a xs ∧ xs.length ≤ 40000 ∧ (∀ x, wipe ((wipe σ vs).set j (some x)) vs = wipe σ vs) ∧ (∀ (i : Nat) x Hz, xs[i]? = some x → Ex Hx Hz → EvK te ((wipe σ vs).set j (some x)) Hz fun v Hy => v = f i x ∧ Hy = Hz) ∧ ∀ p, Hx p = none → P (.ref p) (upd Hx p (.lst (xs.mapIdx f)))) :
    EvK (tLc (iList K tl) (gName j) tYes te vs) σ H P := fun H1 e Q k =>
  h H1 e _ fun w H2 ⟨Hx, ex, ev, hq, hn, hw, hs, hd⟩ => ⟨a, ev, ⟨xs, ex_l ex hq⟩, fun p np => by
    have npx : Hx p = none := fresh_back ex np
    refine lc_list (xs := xs) (fun i H' => Ex (upd Hx p (.lst ((xs.take i).mapIdx f))) H') (Ex.updm ex) (fun i H' _ p' => ex_l p' (ex_l (Ex.new npx) hq)) (fun i x H' hi p' => ?_) (fun H' p' => k _ _ ⟨_, p', by rw [List.take_length]; exact hd p npx⟩)
    show wipe ((wipe σ vs).set j (some x)) vs = wipe σ vs ∧ te ((wipe σ vs).set j (some x)) H' fun y H4 => ∃ acc, H4 p = some (.lst acc) ∧ acc.length < sizeLine ∧ Ex (upd Hx p (.lst ((xs.take (i + 1)).mapIdx f))) (upd H4 p (.lst (acc ++ [y])))
    have hlt : i < xs.length := (List.getElem?_eq_some_iff.mp hi).1
    refine ⟨hw _, hs i x (upd Hx p (.lst ((xs.take i).mapIdx f))) hi (Ex.new npx) H' p' _ ?_⟩
    rintro y H4 ⟨Hy, ey, rfl, rfl⟩
    refine ⟨_, ey p _ upd_same, sz_lt (by rw [List.length_mapIdx, List.length_take]; omega), ?_⟩
    have e5 : (xs.take (i + 1)).mapIdx f = (xs.take i).mapIdx f ++ [f i x] := by
      rw [List.take_succ, hi, List.mapIdx_append, List.length_take, Nat.min_eq_left (Nat.le_of_lt hlt)]
      simp
    rw [e5]
    exact Ex.updm (fun a u q => by
      by_cases ha : a = p
      · subst ha
        rw [npx] at q
        cases q
      · exact ey a u (by rw [upd_ne ha]; exact q))⟩

/-! ### targets -/
def GK (g : TG) (v : V) (σ : L2.St) (H : Hp) (R : L2.St → Hp → Prop) : Prop := ∀ H1, Ex H H1 → ∀ Q : L2.St → Hp → Prop, (∀ σ' H2, (∃ Hx, Ex Hx H2 ∧ R σ' Hx) → Q σ' H2) → g v σ H1 Q
theorem gk_name {i : Nat} {R : L2.St → Hp → Prop} (h : R (σ.set i (some v)) H) : GK (gName i) v σ H R := fun H1 e Q k => k _ _ ⟨H, e, h⟩
theorem gk_tup2 {a : Addr} {g1 g2 : TG} {R : L2.St → Hp → Prop} (hq : SqT K H a [x, y]) (h : GK g1 x σ H fun σ1 H1 => GK g2 y σ1 H1 R) : GK (gTup K 2 (gCons g1 (gCons g2 gNil))) (.ref a) σ H R := fun H1 e Q k =>
  ⟨a, [x, y], rfl, ex_t e hq, rfl, x, [y], rfl, h H1 e _ fun σ1 H2 ⟨_, ex, h2⟩ => ⟨y, [], rfl, h2 H2 ex _ fun σ2 H3 z => ⟨rfl, k σ2 H3 z⟩⟩⟩
theorem gk_tup3 {a : Addr} {g1 g2 g3 : TG} {R : L2.St → Hp → Prop} (hq : SqT K H a [x, y, z]) (h : GK g1 x σ H fun σ1 H1 => GK g2 y σ1 H1 fun σ2 H2 => GK g3 z σ2 H2 R) : GK (gTup K 3 (gCons g1 (gCons g2 (gCons g3 gNil)))) (.ref a) σ H R := fun H1 e Q k =>
  ⟨a, [x, y, z], rfl, ex_t e hq, rfl, x, [y, z], rfl, h H1 e _ fun σ1 H2 ⟨_, ex, h2⟩ => ⟨y, [z], rfl, h2 H2 ex _ fun σ2 H3 ⟨_, ey, h3⟩ => ⟨z, [], rfl, h3 H3 ey _ fun σ3 H4 u => ⟨rfl, k σ3 H4 u⟩⟩⟩⟩
theorem gs_asgG {g : TG} (h : EvK te σ H fun v Hx => GK g v σ Hx fun σ' Hy => Go w D σ' Hy) : Go (tSeq (tAsg te g) w) D σ H := fun H1 e => h H1 e _ fun v H2 ⟨_, ex, gk⟩ => gk H2 ex _ fun σ' H3 ⟨_, ey, go⟩ => go H3 ey
theorem gs_forG {g : TG} (h : EvK te σ H fun v Hx => ∃ (a : Addr) (xs : List V) (Pv : Nat → L2.St → Hp → Prop), v = .ref a ∧ SqL K Hx a xs ∧ Pv 0 σ Hx ∧ (∀ i σ' H', i ≤ xs.length → Pv i σ' H' → SqL K H' a xs) ∧
    (∀ i x σ' H', xs[i]? = some x → Pv i σ' H' → GK g x σ' H' fun σ2 H2 => Go s { D with nx := Lp Pv (i + 1), ct := Lp Pv (i + 1), bk := w D } σ2 H2) ∧ (∀ σ' H', Pv xs.length σ' H' → Go w D σ' H')) : Go (tSeq (tFor (iList K te) g s) w) D σ H := fun H1 e =>
  h H1 e _ fun v H2 ⟨Hx, ex, a, xs, Pv, ev, hq, h0, hl, hs, hd⟩ => ⟨a, ev, ⟨xs, ex_l ex hq⟩, for_list (D := { D with nx := w D }) (Lp Pv) ⟨Hx, ex, h0⟩ (fun i σ' H' hi ⟨Hy, ey, p⟩ => ex_l ey (hl i σ' Hy hi p)) (fun i x σ' H' hi ⟨Hy, ey, p⟩ => hs i x σ' Hy hi p H' ey _ fun σ2 H2 ⟨_, ez, go⟩ => go H2 ez) (fun σ' H' ⟨Hy, ey, p⟩ => hd σ' Hy p H' ey)⟩
/-- for x, y in zip(xs, ys): two lists of one length -/
theorem gs_forZ {g1 g2 : TG} {tl : TA} (h : EvAK tl σ H fun vs Hx => ∃ (a b : Addr) (xs ys : List V) (Pv : Nat → L2.St → Hp → Prop), vs = [.ref a, .ref b] ∧ SqL K Hx a xs ∧ SqL K Hx b ys ∧ xs.length = ys.length ∧ Pv 0 σ Hx ∧ (∀ i σ' H', Pv i σ' H' → SqL K H' a xs ∧ SqL K H' b ys) ∧
    (∀ i x y σ' H', xs[i]? = some x → ys[i]? = some y → Pv i σ' H' → GK g1 x σ' H' fun σ1 H1 => GK g2 y σ1 H1 fun σ2 H2 => Go s { D with nx := Lp Pv (i + 1), ct := Lp Pv (i + 1), bk := w D } σ2 H2) ∧ (∀ σ' H', Pv xs.length σ' H' → Go w D σ' H')) :
    Go (tSeq (tFor (iZip K tl) (gTup K 2 (gCons g1 (gCons g2 gNil))) s) w) D σ H := fun H1 e =>
  h H1 e _ fun vs H2 ⟨Hx, ex, a, b, xs, ys, Pv, ev, hx, hy, hl, h0, hq, hs, hd⟩ => ⟨a, b, xs, ys, ev, ex_l ex hx, ex_l ex hy, RZ.for_zipL (D := { D with nx := w D }) hl (Lp Pv) ⟨Hx, ex, h0⟩ (fun i σ' H' ⟨Hy, ey, p⟩ => ⟨ex_l ey (hq i σ' Hy p).1, ex_l ey (hq i σ' Hy p).2⟩)
    (fun i x y T σ' H' gx gy ⟨Hy, ey, p⟩ nT => gk_tup2 (H := upd H' T (.tup [x, y])) (st_of upd_same) (fun H3 e3 Q k => hs i x y σ' Hy gx gy p H3 ((ey.trans (Ex.new nT)).trans e3) Q k) _ (Ex.refl _) _ fun σ2 H2 ⟨_, ez, go⟩ => go H2 ez) (fun σ' H' ⟨Hy, ey, p⟩ => hd σ' Hy p H' ey)⟩
/-- divmod -/
theorem c_divmod {i j : Int} (hc : CDiv i j) (hp : ∀ p, H p = none → P (.ref p) (upd H p (.tup [.int (i / j), .int (i % j)]))) : CK (fun xs H Q => ∃ i j, xs = [.int i, .int j] ∧ CDiv i j ∧ ∀ p, H p = none → Q (.ref p) (upd H p (.tup [.int (i / j), .int (i % j)]))) [.int i, .int j] H P := fun H1 e Q k => ⟨i, j, rfl, hc, fun p np => k _ _ ⟨_, Ex.updm e, hp p (fresh_back e np)⟩⟩
/-- a statement whose ways meet: what holds behind it, told once -/
def Md (Pc : L2.St → Hp → Prop) (σ : L2.St) (H : Hp) : Prop := ∃ Hx, Ex Hx H ∧ Pc σ Hx
theorem gs_mid (Pc : L2.St → Hp → Prop) (h : Go s { D with nx := Md Pc } σ H) (R : ∀ σ' H', Pc σ' H' → Go w D σ' H') : Go (Evl.tCut s w) D σ H := fun H1 e => ⟨Md Pc, h H1 e, fun σ' H' ⟨Hx, ex, p⟩ => R σ' Hx p H' ex⟩
theorem g1_forF {j : Nat} (h : EvK te σ H fun v Hx => ∃ (a : Addr) (xs : List V) (Pv : Nat → L2.St → Hp → Prop), v = .ref a ∧ SqL K Hx a xs ∧ Pv 0 σ Hx ∧ (∀ i σ' H', i ≤ xs.length → Pv i σ' H' → SqL K H' a xs) ∧
    (∀ i x σ' H', xs[i]? = some x → Pv i σ' H' → Go s { D with nx := Lp Pv (i + 1), ct := Lp Pv (i + 1), bk := D.nx } (σ'.set j (some x)) H') ∧ (∀ σ' H', Pv xs.length σ' H' → ∀ H1, Ex H' H1 → D.nx σ' H1)) : Go (tFor (iList K te) (gName j) s) D σ H := fun H1 e =>
  h H1 e _ fun v H2 ⟨Hx, ex, a, xs, Pv, ev, hq, h0, hl, hs, hd⟩ => ⟨a, ev, ⟨xs, ex_l ex hq⟩, for_list (Lp Pv) ⟨Hx, ex, h0⟩ (fun i σ' H' hi ⟨Hy, ey, p⟩ => ex_l ey (hl i σ' Hy hi p)) (fun i x σ' H' hi ⟨Hy, ey, p⟩ => hs i x σ' Hy hi p H' ey) (fun σ' H' ⟨Hy, ey, p⟩ => hd σ' Hy p H' ey)⟩

/-! ### what may raise -/
/-- a call that may raise, in a def that lets it out (E), in a try (by the slots) -/
def tCallX (sp : Sp) (E : XK) (tl : TA) : TE := tCall sp [] E tl
theorem peX {X : Cx} {sp : Sp} {E : XK} {tl : TA} {e : Expr} (h : PE X e (tCall sp [] E tl)) : PE X e (tCallX sp E tl) := h
theorem k_callX {sp : Sp} {E : XK} {tl : TA} (h : EvAK tl σ H fun vs Hx => Kc (fun H Q => sp vs H Q E) Hx P) : EvK (tCallX sp E tl) σ H P := fun H1 e Q k => h H1 e _ fun vs H2 ⟨Hx, ex, h2⟩ => by
  rw [List.append_nil]
  exact h2 H2 ex Q k
theorem k_callS {sp : Sp} {E : L2.St → XK} {tl : TA} (h : EvAK tl σ H fun vs Hx => Kc (fun H Q => sp vs H Q (E σ)) Hx P) : EvK (tCallS sp E tl) σ H P := kc_bind (f := fun vs H1 Q => sp vs H1 Q (E σ)) h
/-- what is wished of an exception at a heap that may have grown -/
def KE (E : XK) (c : Value) (d : Option Addr) (Hx : Hp) : Prop := ∀ H1, Ex Hx H1 → E c d H1
theorem KE.up {E : XK} {c : Value} {d : Option Addr} (h : KE E c d H) (e : Ex H H') : KE E c d H' := fun H1 a => h H1 (e.trans a)
/-- except c as n (slot i), the exception's class that clause's -/
theorem ke_as {c : Value} {i : Nat} {ts : Addr → Value → Option Addr → TS} {Wout : WX} {cls : Value} {d : Option Addr} (he : PySem.W.exmOne K cls c = some true)
    (h : ∀ a, H a = none → Go (ts a cls d) { nx := fun σ' H' => D.nx (σ'.set i none) H', rt := D.rt, bk := fun σ' H' => D.bk (σ'.set i none) H', ct := fun σ' H' => D.ct (σ'.set i none) H' } (σ.set i (some (.ref a))) H) : KE (WE (wAs K c i ts Wout D) σ) cls d H := fun H1 e =>
  ⟨true, he, fun _ a na => h a (fresh_back e na) H1 e, fun q => Bool.noConfusion q⟩
theorem ke_only {c : Value} {ts : Addr → Value → Option Addr → TS} {Wout : WX} {cls : Value} {d : Option Addr} (he : PySem.W.exmOne K cls c = some true)
    (h : ∀ a, H a = none → Go (ts a cls d) D σ H) : KE (WE (wOnly K c ts Wout D) σ) cls d H := fun H1 e => ⟨true, he, fun _ a na => h a (fresh_back e na) H1 e, fun q => Bool.noConfusion q⟩
/-- a suite that is only asked for exceptions of the class at C, made without a dict of their own -/
def tsD (C : Addr) (ts : Addr → TS) : Addr → Value → Option Addr → TS := fun a cls d Dn σ H => cls = .ref C ∧ d = none ∧ ts a Dn σ H
theorem suiteD {X : Cx} {C : Addr} {sts : List Stmt} {ts : Addr → TS} (h : ∀ (a : Addr) (oe : Obj) (pn : List (Addr × Obj)), Zc (.ref C) none oe → (∃ vs, oe.data = .fields vs) → PSs (X.suite a ((a, oe) :: pn)) sts (ts a)) :
    ∀ (a : Addr) (oe : Obj) (cls : Value) (d : Option Addr) (pn : List (Addr × Obj)), Zc cls d oe → (∃ vs, oe.data = .fields vs) → PSs (X.suite a ((a, oe) :: pn)) sts (tsD C ts a cls d) := fun a oe cls d pn hz hf =>
  ⟨fun pins s σ H Dn I hh => by
    obtain ⟨e1, e2, h2⟩ := hh
    subst e1 e2
    exact (h a oe pn hz hf).run pins s σ H Dn I h2⟩
theorem g_tsD {C a : Addr} {ts : Addr → TS} (h : Go (ts a) D σ H) : Go (tsD C ts a (.ref C) none) D σ H := fun H1 e => ⟨rfl, rfl, h H1 e⟩
theorem bIsE {X : Cx} {a C : Addr} {oe : Obj} {pn : List (Addr × Obj)} (CE : ExcC K C) (hz : Zc (.ref C) none oe) (hf : ∃ vs, oe.data = .fields vs) (h : X.K = K := by rfl) : CallR (X.suite a ((a, oe) :: pn)) (.builtin "isinstance") (rIsE K C a) := by
  subst h
  exact call_isE CE hz hf
theorem c_isE {C a D0 : Addr} {b : Bool} (hk : PySem.W.kitOne K (.ref C) (.ref D0) = some b) (hp : P (.bl b) H) : CK (rIsE K C a) [.ref a, .ref D0] H P := fun H1 e Q k => ⟨.ref D0, .ref D0, b, rfl, fun u r => r, hk, k _ _ ⟨H, e, hp⟩⟩
theorem c_isET {C a : Addr} {n : String} {b : Bool} (hk : PySem.W.kitOne K (.ref C) (.type n) = some b) (hp : P (.bl b) H) : CK (rIsE K C a) [.ref a, .ty n] H P := fun H1 e Q k => ⟨.ty n, .type n, b, rfl, fun u r => r, hk, k _ _ ⟨H, e, hp⟩⟩
/-- xs.insert(i, y), xs.pop(i), 0 ≤ i -/
theorem m_insert {l : Addr} {xs : List V} {j : Nat} (h : H l = some (.lst xs)) (hz : xs.length < 100000) (hj : j ≤ 100000) (hp : P .non (upd H l (.lst (xs.take j ++ [y] ++ xs.drop j)))) : MK (fun x vs H Q => ∃ (l : Addr) (xs : List V) (i : Int) (y : V), x = .ref l ∧ vs = [.int i, y] ∧ H l = some (.lst xs) ∧ xs.length < sizeLine ∧ 0 ≤ i ∧ i < 2 ^ 63 ∧ Q .non (upd H l (.lst (xs.take i.toNat ++ [y] ++ xs.drop i.toNat)))) (.ref l) [.int (j : Int), y] H P := fun H1 e Q k =>
  ⟨l, xs, (j : Int), y, rfl, rfl, e _ _ h, sz_lt hz, by omega, by omega, by
    rw [Int.toNat_natCast]
    exact k _ _ ⟨_, Ex.updm e, hp⟩⟩
theorem m_popAt {l : Addr} {xs : List V} {j : Nat} (h : H l = some (.lst xs)) (hz : xs.length < 100000) (hj : xs[j]? = some y) (hp : P y (upd H l (.lst (xs.eraseIdx j)))) : MK rPopAt (.ref l) [.int (j : Int)] H P := fun H1 e Q k => by
  have hlt := (List.getElem?_eq_some_iff.mp hj).1
  exact ⟨l, xs, (j : Int), j, y, rfl, rfl, e _ _ h, by omega, by omega, seqIndex_of (by omega) (by omega), hj, k _ _ ⟨_, Ex.updm e, hp⟩⟩
end
end Px

set_option Elab.async false
set_option linter.all false
/-! Pm: plain mathematics: rows in order, what the fullest hold together. -/
namespace Pm
/-- a row in order, the fullest first -/
def sd (ns : List Int) : List Int := ns.mergeSort fun a b => decide (b ≤ a)
theorem sd_perm (ns : List Int) : (sd ns).Perm ns := List.mergeSort_perm ns _
theorem sd_sorted (ns : List Int) : (sd ns).Pairwise (· ≥ ·) := by
  have h := List.pairwise_mergeSort (le := fun a b : Int => decide (b ≤ a)) (fun a b c h1 h2 => by
    have h1' := of_decide_eq_true h1
    have h2' := of_decide_eq_true h2
    exact decide_eq_true (by omega)) (fun a b => by
    by_cases h : b ≤ a
    · rw [decide_eq_true h]; rfl
    · have h2 : a ≤ b := by omega
      rw [decide_eq_true h2, Bool.or_true]) ns
  exact h.imp fun h => of_decide_eq_true h
theorem sd_uniq {l ns : List Int} (p : l.Perm ns) (s : l.Pairwise (· ≥ ·)) : l = sd ns :=
  List.Perm.eq_of_pairwise (le := (· ≥ ·)) (fun a b _ _ h1 h2 => by omega) s (sd_sorted ns) (p.trans (sd_perm ns).symm)
theorem sd_of_perm {a b : List Int} (p : a.Perm b) : sd a = sd b := sd_uniq ((sd_perm a).trans p) (sd_sorted a)
theorem sd_len (ns : List Int) : (sd ns).length = ns.length := (sd_perm ns).length_eq
theorem sd_reverse (ns : List Int) : sd ns.reverse = sd ns := sd_of_perm (List.reverse_perm ns)
theorem perm_sum {a b : List Int} (p : a.Perm b) : a.sum = b.sum := by
  induction p with
  | nil => rfl
  | cons x _ ih => rw [List.sum_cons, List.sum_cons, ih]
  | swap x y l => rw [List.sum_cons, List.sum_cons, List.sum_cons, List.sum_cons]; omega
  | trans _ _ h1 h2 => exact h1.trans h2
/-- the sums of the first k, for each k -/
def psums (l : List Int) : List Int := (List.range (l.length + 1)).map fun k => (l.take k).sum
def tops (ns : List Int) : List Int := psums (sd ns)
theorem psums_len (l : List Int) : (psums l).length = l.length + 1 := by unfold psums; rw [List.length_map, List.length_range]
theorem tops_len (l : List Int) : (tops l).length = l.length + 1 := by unfold tops; rw [psums_len, sd_len]
theorem take_more {α : Type} {l : List α} {i : Nat} {x : α} (h : l[i]? = some x) : l.take (i + 1) = l.take i ++ [x] := by
  rw [List.take_succ, h]; rfl
theorem sum_take {l : List Int} {i : Nat} {x : Int} (h : l[i]? = some x) : (l.take (i + 1)).sum = (l.take i).sum + x := by
  rw [take_more h, List.sum_append, List.sum_cons, List.sum_nil]; omega
theorem psums_get {l : List Int} {k : Nat} (h : k ≤ l.length) : (psums l)[k]? = some (l.take k).sum := by
  unfold psums
  rw [List.getElem?_map, List.getElem?_range (by omega)]
  rfl
theorem map_at {ns : List Int} {i : Nat} {x : L2.V} (h : (ns.map L2.V.int)[i]? = some x) : ∃ z, ns[i]? = some z ∧ x = L2.V.int z := by
  rw [List.getElem?_map] at h
  cases e : ns[i]? with
  | none => rw [e] at h; cases h
  | some z => rw [e] at h; exact ⟨z, rfl, (Option.some.inj h).symm⟩
theorem atI_map {ns : List Int} {k : Nat} {z : Int} (h : ns[k]? = some z) : L2.atI (ns.map L2.V.int) (k : Int) = some (L2.V.int z) := L2.atI_nat (by rw [List.getElem?_map, h]; rfl)
theorem range_getD {α : Type} (l : List Int) (f : Int → α) : (List.range l.length).map (fun i => f (l.getD i 0)) = l.map f := by
  apply List.ext_getElem
  · rw [List.length_map, List.length_range, List.length_map]
  · intro i h1 h2
    rw [List.length_map] at h2
    rw [List.getElem_map, List.getElem_map, List.getElem_range, List.getD_eq_getElem?_getD, List.getElem?_eq_getElem h2]
    rfl
open L2 Evl Px in
/-- sorted(xs, reverse=True) -/
theorem c_sortedRev {K : PySem.W.Frag} {H : Hp} {P : V → Hp → Prop} {a : PySem.Addr} {ns : List Int} (h : SqL K H a (ns.map V.int)) (hp : ∀ p, H p = none → P (.ref p) (upd H p (.lst ((sd ns).map V.int)))) : Kc (rSortedKw K true [.bl true] [.ref a] [.bl true]) H P := fun H1 e Q k =>
  ⟨a, ns, rfl, rfl, ex_l e h, fun ns' p hp' ho np => by
    have e2 : ns' = sd ns := sd_uniq hp' ho
    subst e2
    exact k _ _ ⟨_, Ex.updm e, hp p (fresh_back e np)⟩⟩

theorem atI_neg {α : Type} {l : List α} (h : 0 < l.length) : L2.atI l (-1) = l[l.length - 1]? := by
  unfold L2.atI L2.ixN
  rw [if_neg (by omega), if_pos (by omega)]
  show l[(-1 + (l.length : Int)).toNat]? = _
  congr 1
  omega
theorem atI_last {l : List Int} (h : 0 < l.length) : L2.atI (l.map L2.V.int) (-1) = some (L2.V.int (l.getD (l.length - 1) 0)) := by
  rw [atI_neg (by rw [List.length_map]; exact h), List.length_map, List.getElem?_map, List.getD_eq_getElem?_getD, List.getElem?_eq_getElem (by omega)]
  rfl

/-! ### sums -/
theorem rsum_succ (f : Nat → Int) (k : Nat) : ((List.range (k + 1)).map f).sum = ((List.range k).map f).sum + f k := by
  rw [List.range_succ, List.map_append, List.sum_append]
  show _ + (f k + 0) = _
  omega
theorem sum_ge {x : Int} : ∀ {l : List Int}, (∀ y ∈ l, x ≤ y) → (l.length : Int) * x ≤ l.sum
  | [], _ => by simp
  | a :: l, h => by
    have h1 := sum_ge (x := x) (l := l) fun y hy => h y (List.mem_cons_of_mem _ hy)
    have h2 := h a List.mem_cons_self
    rw [List.length_cons, List.sum_cons]
    have e : ((l.length + 1 : Nat) : Int) * x = (l.length : Int) * x + x := by
      rw [Int.natCast_add, Int.add_mul]
      show _ + 1 * x = _
      rw [Int.one_mul]
    omega
theorem sum_le {x : Int} : ∀ {l : List Int}, (∀ y ∈ l, y ≤ x) → l.sum ≤ (l.length : Int) * x
  | [], _ => by simp
  | a :: l, h => by
    have h1 := sum_le (x := x) (l := l) fun y hy => h y (List.mem_cons_of_mem _ hy)
    have h2 := h a List.mem_cons_self
    rw [List.length_cons, List.sum_cons]
    have e : ((l.length + 1 : Nat) : Int) * x = (l.length : Int) * x + x := by
      rw [Int.natCast_add, Int.add_mul]
      show _ + 1 * x = _
      rw [Int.one_mul]
    omega
theorem abs_sum {b : Nat} : ∀ {l : List Int}, (∀ y ∈ l, y.natAbs < b) → l.sum.natAbs ≤ l.length * b
  | [], _ => by simp
  | a :: l, h => by
    have h1 := abs_sum (b := b) (l := l) fun y hy => h y (List.mem_cons_of_mem _ hy)
    have h2 := h a List.mem_cons_self
    rw [List.length_cons, List.sum_cons, Nat.add_mul]
    omega
theorem sum_bd {b : Nat} {l : List Int} (h : ∀ y ∈ l, Px.Bd b y) (hl : l.length ≤ 100) : Px.Bd (b + 7) l.sum := by
  have h1 := abs_sum (b := 2 ^ b) h
  have h2 : l.length * 2 ^ b ≤ 100 * 2 ^ b := Nat.mul_le_mul_right _ hl
  unfold Px.Bd
  rw [Nat.pow_add]
  have h3 : 0 < 2 ^ b := Nat.pow_pos (by decide)
  omega
/-- the sum of the squares -/
def sq (l : List Int) : Int := (l.map fun x => x * x).sum
theorem sq_take {l : List Int} {i : Nat} {x : Int} (h : l[i]? = some x) : sq (l.take (i + 1)) = sq (l.take i) + x * x := by
  unfold sq
  rw [take_more h, List.map_append, List.sum_append]
  show _ + (x * x + 0) = _
  omega
theorem sq_bd {b : Nat} {l : List Int} (h : ∀ y ∈ l, Px.Bd b y) (hl : l.length ≤ 100) : Px.Bd (b + b + 7) (sq l) := sum_bd (fun y hy => by
  obtain ⟨x, hx, rfl⟩ := List.mem_map.mp hy
  exact (h x hx).mul (h x hx)) (by rw [List.length_map]; exact hl)
def spread (l : List Int) : Int := (l.length : Int) * sq l - l.sum * l.sum
theorem sq_perm {a b : List Int} (p : a.Perm b) : sq a = sq b := perm_sum (p.map _)
theorem spread_perm {a b : List Int} (p : a.Perm b) : spread a = spread b := by
  unfold spread
  rw [sq_perm p, perm_sum p, p.length_eq]
/-- the squared differences of x to each of l -/
def dsq (x : Int) (l : List Int) : Int := (l.map fun y => (x - y) * (x - y)).sum
theorem dsq_take {x : Int} {l : List Int} {i : Nat} {y : Int} (h : l[i]? = some y) : dsq x (l.take (i + 1)) = dsq x (l.take i) + (x - y) * (x - y) := by
  unfold dsq
  rw [take_more h, List.map_append, List.sum_append]
  show _ + ((x - y) * (x - y) + 0) = _
  omega
theorem dsq_eq (x : Int) : ∀ l : List Int, dsq x l = (l.length : Int) * (x * x) - 2 * x * l.sum + sq l
  | [] => by simp [dsq, sq]
  | y :: l => by
    have ih := dsq_eq x l
    have e1 : dsq x (y :: l) = (x - y) * (x - y) + dsq x l := by unfold dsq; rw [List.map_cons, List.sum_cons]
    have e2 : sq (y :: l) = y * y + sq l := by unfold sq; rw [List.map_cons, List.sum_cons]
    rw [e1, e2, ih, List.sum_cons, List.length_cons, Int.natCast_add]
    generalize l.sum = S
    generalize sq l = q
    generalize (l.length : Int) = n
    show _ = (n + 1) * (x * x) - _ + _
    grind
/-- all pairs, place by place -/
def pairs (l : List Int) : Nat → Int
  | 0 => 0
  | k + 1 => pairs l k + dsq (l.getD k 0) (l.take k)
theorem pairs_eq (l : List Int) : ∀ k, k ≤ l.length → pairs l k = (k : Int) * sq (l.take k) - (l.take k).sum * (l.take k).sum
  | 0, _ => by simp [pairs]
  | k + 1, h => by
    have ih := pairs_eq l k (by omega)
    have hx : l[k]? = some (l.getD k 0) := by
      rw [List.getD_eq_getElem?_getD, List.getElem?_eq_getElem (by omega)]
      rfl
    show pairs l k + dsq (l.getD k 0) (l.take k) = _
    rw [ih, dsq_eq, sq_take hx, sum_take hx, List.length_take, Nat.min_eq_left (by omega), Int.natCast_add]
    generalize (l.take k).sum = S
    generalize sq (l.take k) = q
    generalize l.getD k 0 = x
    generalize (k : Int) = n
    show _ = (n + 1) * _ - _
    grind
theorem pairs_all (l : List Int) : pairs l l.length = spread l := by
  rw [pairs_eq l _ (Nat.le_refl _), List.take_length]
  rfl
theorem getD_at {l : List Int} {i : Nat} (h : i < l.length) : l[i]? = some (l.getD i 0) := by
  rw [List.getD_eq_getElem?_getD, List.getElem?_eq_getElem h]
  rfl

/-! ### the level row -/
def lv (n : Nat) (s : Int) (k : Nat) : Int := s / (n : Int) + if (k : Int) < s % (n : Int) then 1 else 0
def level (n : Nat) (s : Int) : List Int := (List.range n).map (lv n s)
theorem level_len (n : Nat) (s : Int) : (level n s).length = n := by unfold level; rw [List.length_map, List.length_range]
theorem lv_sum {n : Nat} {s : Int} (h : 0 ≤ s % (n : Int)) : ∀ k : Nat, ((List.range k).map (lv n s)).sum = (k : Int) * (s / (n : Int)) + min (k : Int) (s % (n : Int))
  | 0 => by simp; omega
  | k + 1 => by
    rw [rsum_succ, lv_sum h k]
    unfold lv
    have e : ((k + 1 : Nat) : Int) * (s / (n : Int)) = (k : Int) * (s / (n : Int)) + s / (n : Int) := by
      rw [Int.natCast_add, Int.add_mul]
      show _ + 1 * _ = _
      rw [Int.one_mul]
    rw [e]
    split <;> omega
theorem level_take {n : Nat} {s : Int} {k : Nat} (h : k ≤ n) : (level n s).take k = (List.range k).map (lv n s) := by
  unfold level
  rw [← List.map_take, List.take_range, Nat.min_eq_left h]
theorem level_sum {n : Nat} {s : Int} (h : 0 < n) : (level n s).sum = s := by
  have h0 := Int.emod_nonneg s (show (n : Int) ≠ 0 by omega)
  have h1 := Int.emod_lt_of_pos s (show 0 < (n : Int) by omega)
  have e := lv_sum h0 n
  unfold level
  rw [e, Int.min_eq_right (by omega)]
  exact Int.mul_ediv_add_emod s n
theorem level_at {n : Nat} {s : Int} {k : Nat} (h : k < n) : (level n s)[k]? = some (lv n s k) := by
  unfold level
  rw [List.getElem?_map, List.getElem?_range h]
  rfl
theorem lv_mono {n : Nat} {s : Int} {i j : Nat} (h : i ≤ j) : lv n s j ≤ lv n s i := by
  unfold lv
  split <;> split <;> omega
theorem level_sorted (n : Nat) (s : Int) : (level n s).Pairwise (· ≥ ·) := by
  unfold level
  rw [List.pairwise_map]
  exact List.pairwise_lt_range.imp fun h => lv_mono (Nat.le_of_lt h)
theorem sd_level (n : Nat) (s : Int) : sd (level n s) = level n s := (sd_uniq (List.Perm.refl _) (level_sorted n s)).symm
theorem lv_sq {n : Nat} {s : Int} (h : 0 ≤ s % (n : Int)) : ∀ k : Nat, ((List.range k).map fun i => lv n s i * lv n s i).sum = (k : Int) * ((s / (n : Int)) * (s / (n : Int))) + min (k : Int) (s % (n : Int)) * (2 * (s / (n : Int)) + 1)
  | 0 => by
    have e : min ((0 : Nat) : Int) (s % (n : Int)) = 0 := by omega
    rw [e]
    simp
  | k + 1 => by
    rw [rsum_succ, lv_sq h k]
    unfold lv
    rw [Int.natCast_add]
    by_cases c : (k : Int) < s % (n : Int)
    · rw [if_pos c, Int.min_eq_left (by omega), Int.min_eq_left (by omega)]
      generalize s / (n : Int) = q
      generalize (k : Int) = m
      show _ = (m + 1) * _ + (m + 1) * _
      grind
    · rw [if_neg c, Int.min_eq_right (by omega), Int.min_eq_right (by omega)]
      generalize s / (n : Int) = q
      generalize s % (n : Int) = r
      generalize (k : Int) = m
      show _ = (m + 1) * _ + _
      grind
theorem spread_level {n : Nat} {s : Int} (h : 0 < n) : spread (level n s) = s % (n : Int) * ((n : Int) - s % (n : Int)) := by
  have h0 := Int.emod_nonneg s (show (n : Int) ≠ 0 by omega)
  have h1 := Int.emod_lt_of_pos s (show 0 < (n : Int) by omega)
  have e1 : sq (level n s) = (n : Int) * ((s / (n : Int)) * (s / (n : Int))) + s % (n : Int) * (2 * (s / (n : Int)) + 1) := by
    unfold sq level
    rw [List.map_map]
    have e := lv_sq h0 n
    rw [Int.min_eq_right (by omega)] at e
    exact e
  unfold spread
  rw [e1, level_sum h, level_len]
  have e2 := Int.mul_ediv_add_emod s n
  generalize s / (n : Int) = q at *
  generalize s % (n : Int) = r at *
  generalize (n : Int) = m at *
  subst e2
  grind
theorem spread_nil : spread [] = 0 := rfl
/-- no k of the fullest hold less than the level row's -/
theorem level_below {l : List Int} (hs : l.Pairwise (· ≥ ·)) {k : Nat} (hk : k ≤ l.length) : ((level l.length l.sum).take k).sum ≤ (l.take k).sum := by
  rw [level_take hk]
  cases k with
  | zero => simp
  | succ m =>
    have hn : (l.length : Int) ≠ 0 := by omega
    have h0 := Int.emod_nonneg l.sum hn
    have h1 := Int.emod_lt_of_pos l.sum (show 0 < (l.length : Int) by omega)
    rw [lv_sum h0]
    have e2 := Int.mul_ediv_add_emod l.sum l.length
    have hx := getD_at (l := l) (i := m) (by omega)
    generalize l.getD m 0 = x at hx
    have htd : l.take (m + 1) ++ l.drop (m + 1) = l := List.take_append_drop _ _
    have hsum : (l.take (m + 1)).sum + (l.drop (m + 1)).sum = l.sum := by
      rw [← List.sum_append, htd]
    have hp : ∀ i j (a b : Int), i < j → l[i]? = some a → l[j]? = some b → b ≤ a := fun i j a b hij ha hb => by
      obtain ⟨h3, rfl⟩ := List.getElem?_eq_some_iff.mp ha
      obtain ⟨h4, rfl⟩ := List.getElem?_eq_some_iff.mp hb
      exact List.pairwise_iff_getElem.mp hs i j h3 h4 hij
    have g1 : ∀ y ∈ l.take (m + 1), x ≤ y := fun y hy => by
      obtain ⟨i, hi⟩ := List.mem_iff_getElem?.mp hy
      rw [List.getElem?_take] at hi
      split at hi
      · rename_i c
        by_cases e : i = m
        · subst e
          rw [hx] at hi
          have := Option.some.inj hi
          omega
        · exact hp i m y x (by omega) hi hx
      · cases hi
    have g2 : ∀ y ∈ l.drop (m + 1), y ≤ x := fun y hy => by
      obtain ⟨i, hi⟩ := List.mem_iff_getElem?.mp hy
      rw [List.getElem?_drop] at hi
      exact hp m (m + 1 + i) x y (by omega) hx hi
    have s1 := sum_ge g1
    have s2 := sum_le g2
    rw [List.length_take, Nat.min_eq_left (by omega)] at s1
    rw [List.length_drop] at s2
    generalize l.sum / (l.length : Int) = q at *
    generalize l.sum % (l.length : Int) = r at *
    generalize (l.take (m + 1)).sum = T at *
    generalize (l.drop (m + 1)).sum = U at *
    have hd : ((l.length - (m + 1) : Nat) : Int) = (l.length : Int) - ((m + 1 : Nat) : Int) := by omega
    rw [hd] at s2
    have hkn : 0 ≤ (l.length : Int) - ((m + 1 : Nat) : Int) := by omega
    have hk0 : 0 ≤ ((m + 1 : Nat) : Int) := by omega
    generalize ((m + 1 : Nat) : Int) = K at *
    generalize (l.length : Int) = N at *
    by_cases c : q + 1 ≤ x
    · have e4 : K * (q + 1) ≤ K * x := Int.mul_le_mul_of_nonneg_left c hk0
      rw [Int.mul_add, Int.mul_one] at e4
      omega
    · have e4 : (N - K) * x ≤ (N - K) * q := Int.mul_le_mul_of_nonneg_left (by omega) hkn
      rw [Int.sub_mul (c := q)] at e4
      omega
theorem tops_at {l : List Int} {k : Nat} (h : k ≤ l.length) : (tops l)[k]? = some ((sd l).take k).sum := psums_get (by rw [sd_len]; exact h)
theorem tops_level_le {l : List Int} {k : Nat} {x y : Int} (hx : (tops (level l.length l.sum))[k]? = some x) (hy : (tops l)[k]? = some y) : x ≤ y := by
  have hk : k ≤ l.length := by
    have h := (List.getElem?_eq_some_iff.mp hy).1
    rw [tops_len] at h
    omega
  rw [tops_at hk] at hy
  rw [tops_at (by rw [level_len]; exact hk), sd_level] at hx
  have e1 := Option.some.inj hx
  have e2 := Option.some.inj hy
  have h := level_below (sd_sorted l) (k := k) (by rw [sd_len]; exact hk)
  rw [sd_len, perm_sum (sd_perm l)] at h
  omega
theorem rest0 (ms : List Int) : 0 ≤ ms.sum % (ms.length : Int) := by
  cases ms with
  | nil => decide
  | cons a l => exact Int.emod_nonneg _ (by rw [List.length_cons]; omega)
theorem restn (ms : List Int) : min (ms.length : Int) (ms.sum % (ms.length : Int)) = ms.sum % (ms.length : Int) := by
  cases ms with
  | nil => decide
  | cons a l => exact Int.min_eq_right (Int.le_of_lt (Int.emod_lt_of_pos _ (by rw [List.length_cons]; omega)))
theorem spread_level' (ms : List Int) : spread (level ms.length ms.sum) = ms.sum % (ms.length : Int) * ((ms.length : Int) - ms.sum % (ms.length : Int)) := by
  cases ms with
  | nil => decide
  | cons a l => exact spread_level (by rw [List.length_cons]; omega)
/-- one more that holds more than the last -/
theorem more_step {ms : List Int} {i : Nat} (hi : i < ms.length) : min (i : Int) (ms.sum % (ms.length : Int)) + (if decide (lv ms.length ms.sum (ms.length - 1) < lv ms.length ms.sum i) = true then 1 else 0) = min ((i + 1 : Nat) : Int) (ms.sum % (ms.length : Int)) := by
  have h1 := Int.emod_lt_of_pos ms.sum (show 0 < (ms.length : Int) by omega)
  have h0 := rest0 ms
  unfold lv
  rw [if_neg (show ¬ ((ms.length - 1 : Nat) : Int) < ms.sum % (ms.length : Int) by omega)]
  by_cases c : (i : Int) < ms.sum % (ms.length : Int)
  · rw [if_pos c, decide_eq_true (by omega), if_pos rfl]
    omega
  · rw [if_neg c, decide_eq_false (by omega), if_neg Bool.false_ne_true]
    omega
end Pm

set_option Elab.async false
set_option linter.all false
/-! Pg: plain mathematics: gifts, walks, what they do to the tops and to the spread. -/
namespace Pg
open Pm
/-- does the gift (g, t, d) fit the row -/
structure Fits (ns : List Int) (g t d : Int) : Prop where
  d1 : 1 ≤ d
  g0 : 0 ≤ g
  gn : g < (ns.length : Int)
  t0 : 0 ≤ t
  tn : t < (ns.length : Int)
  more : d ≤ ns.getD g.toNat 0 - ns.getD t.toNat 0
def fitsB (ns : List Int) (g t d : Int) : Bool := decide (1 ≤ d) && decide (0 ≤ g) && decide (g < (ns.length : Int)) && decide (0 ≤ t) && decide (t < (ns.length : Int)) && decide (d ≤ ns.getD g.toNat 0 - ns.getD t.toNat 0)
theorem fitsB_iff {ns : List Int} {g t d : Int} : fitsB ns g t d = true ↔ Fits ns g t d := by
  unfold fitsB
  simp only [Bool.and_eq_true, decide_eq_true_eq]
  exact ⟨fun ⟨⟨⟨⟨⟨a, b⟩, c⟩, d⟩, e⟩, f⟩ => ⟨a, b, c, d, e, f⟩, fun ⟨a, b, c, d, e, f⟩ => ⟨⟨⟨⟨⟨a, b⟩, c⟩, d⟩, e⟩, f⟩⟩
theorem fitsB_not {ns : List Int} {g t d : Int} (h : ¬ Fits ns g t d) : fitsB ns g t d = false := by
  cases e : fitsB ns g t d with
  | false => rfl
  | true => exact absurd (fitsB_iff.mp e) h
/-- the row behind the gift -/
def done (ns : List Int) (g t d : Int) : List Int := (ns.set g.toNat (ns.getD g.toNat 0 - d)).set t.toNat (ns.getD t.toNat 0 + d)
theorem done_len (ns : List Int) (g t d : Int) : (done ns g t d).length = ns.length := by unfold done; rw [List.length_set, List.length_set]
theorem Fits.ne {ns : List Int} {g t d : Int} (h : Fits ns g t d) : g.toNat ≠ t.toNat := fun e => by
  have h1 := h.more
  have h2 := h.d1
  rw [e] at h1
  omega
theorem getD_set_ne {l : List Int} {i j : Nat} {x : Int} (h : i ≠ j) : (l.set i x).getD j 0 = l.getD j 0 := by
  rw [List.getD_eq_getElem?_getD, List.getD_eq_getElem?_getD, List.getElem?_set_ne h]
theorem msum_set (f : Int → Int) : ∀ (l : List Int) (i : Nat) (x : Int), i < l.length → ((l.set i x).map f).sum = (l.map f).sum - f (l.getD i 0) + f x
  | [], i, x, h => absurd h (Nat.not_lt_zero _)
  | a :: l, 0, x, _ => by
    show f x + (l.map f).sum = f a + (l.map f).sum - f a + f x
    omega
  | a :: l, i + 1, x, h => by
    have ih := msum_set f l i x (by simpa using h)
    show f a + ((l.set i x).map f).sum = f a + (l.map f).sum - f (l.getD i 0) + f x
    rw [ih]
    omega
/-- what a gift does to a sum over the purses -/
theorem msum_done (f : Int → Int) {ns : List Int} {g t d : Int} (h : Fits ns g t d) : ((done ns g t d).map f).sum = (ns.map f).sum - f (ns.getD g.toNat 0) - f (ns.getD t.toNat 0) + f (ns.getD g.toNat 0 - d) + f (ns.getD t.toNat 0 + d) := by
  have h1 := h.g0
  have h2 := h.gn
  have h3 := h.t0
  have h4 := h.tn
  unfold done
  rw [msum_set f _ _ _ (by rw [List.length_set]; omega), msum_set f _ _ _ (by omega), getD_set_ne h.ne]
  omega
theorem sum_done {ns : List Int} {g t d : Int} (h : Fits ns g t d) : (done ns g t d).sum = ns.sum := by
  have e := msum_done (fun x => x) h
  rw [List.map_id', List.map_id'] at e
  omega
theorem sq_done {ns : List Int} {g t d : Int} (h : Fits ns g t d) : sq (done ns g t d) = sq ns - 2 * d * (ns.getD g.toNat 0 - ns.getD t.toNat 0 - d) := by
  have e := msum_done (fun x => x * x) h
  unfold sq
  rw [e]
  generalize ns.getD g.toNat 0 = a
  generalize ns.getD t.toNat 0 = b
  grind
theorem spread_done {ns : List Int} {g t d : Int} (h : Fits ns g t d) : spread ns - spread (done ns g t d) = 2 * (ns.length : Int) * d * ((ns.getD g.toNat 0 - ns.getD t.toNat 0) - d) := by
  unfold spread
  rw [done_len, sum_done h, sq_done h]
  generalize ns.getD g.toNat 0 = a
  generalize ns.getD t.toNat 0 = b
  generalize sq ns = q
  generalize ns.sum * ns.sum = s
  generalize (ns.length : Int) = n
  grind
/-- what is held above c -/
def ab (c x : Int) : Int := max 0 (x - c)
def F (c : Int) (ns : List Int) : Int := (ns.map (ab c)).sum
theorem F_perm {a b : List Int} (c : Int) (p : a.Perm b) : F c a = F c b := perm_sum (p.map _)
theorem F_app (c : Int) (a b : List Int) : F c (a ++ b) = F c a + F c b := by unfold F; rw [List.map_append, List.sum_append]
theorem F_nonneg (c : Int) : ∀ l : List Int, 0 ≤ F c l
  | [] => by simp [F]
  | x :: l => by
    have ih := F_nonneg c l
    have e : F c (x :: l) = ab c x + F c l := by unfold F; rw [List.map_cons, List.sum_cons]
    unfold ab at e
    omega
theorem F_ge (c : Int) : ∀ l : List Int, l.sum ≤ (l.length : Int) * c + F c l
  | [] => by simp [F]
  | x :: l => by
    have ih := F_ge c l
    have e : F c (x :: l) = ab c x + F c l := by unfold F; rw [List.map_cons, List.sum_cons]
    have e2 : ((l.length + 1 : Nat) : Int) * c = (l.length : Int) * c + c := by
      rw [Int.natCast_add, Int.add_mul]
      show _ + 1 * c = _
      rw [Int.one_mul]
    rw [List.sum_cons, List.length_cons, e, e2]
    unfold ab
    omega
theorem F_above {c : Int} : ∀ {l : List Int}, (∀ x ∈ l, c ≤ x) → F c l = l.sum - (l.length : Int) * c
  | [], _ => by simp [F]
  | x :: l, h => by
    have ih := F_above (c := c) (l := l) fun y hy => h y (List.mem_cons_of_mem _ hy)
    have h1 := h x List.mem_cons_self
    have e : F c (x :: l) = ab c x + F c l := by unfold F; rw [List.map_cons, List.sum_cons]
    have e2 : ((l.length + 1 : Nat) : Int) * c = (l.length : Int) * c + c := by
      rw [Int.natCast_add, Int.add_mul]
      show _ + 1 * c = _
      rw [Int.one_mul]
    rw [List.sum_cons, List.length_cons, e, e2, ih]
    unfold ab
    omega
theorem F_below {c : Int} : ∀ {l : List Int}, (∀ x ∈ l, x ≤ c) → F c l = 0
  | [], _ => by simp [F]
  | x :: l, h => by
    have ih := F_below (c := c) (l := l) fun y hy => h y (List.mem_cons_of_mem _ hy)
    have h1 := h x List.mem_cons_self
    have e : F c (x :: l) = ab c x + F c l := by unfold F; rw [List.map_cons, List.sum_cons]
    rw [e, ih]
    unfold ab
    omega
/-- the k fullest, by what is held above c -/
theorem top_le (c : Int) (l : List Int) {k : Nat} (hk : k ≤ l.length) : (l.take k).sum ≤ (k : Int) * c + F c l := by
  have h1 := F_ge c (l.take k)
  have h2 := F_nonneg c (l.drop k)
  have h3 := F_app c (l.take k) (l.drop k)
  rw [List.take_append_drop] at h3
  rw [List.length_take, Nat.min_eq_left hk] at h1
  omega
theorem sorted_at {l : List Int} (hs : l.Pairwise (· ≥ ·)) {i j : Nat} {a b : Int} (hij : i < j) (ha : l[i]? = some a) (hb : l[j]? = some b) : b ≤ a := by
  obtain ⟨h3, rfl⟩ := List.getElem?_eq_some_iff.mp ha
  obtain ⟨h4, rfl⟩ := List.getElem?_eq_some_iff.mp hb
  exact List.pairwise_iff_getElem.mp hs i j h3 h4 hij
theorem top_eq {l : List Int} (hs : l.Pairwise (· ≥ ·)) {m : Nat} {c : Int} (hc : l[m]? = some c) : (l.take (m + 1)).sum = ((m + 1 : Nat) : Int) * c + F c l := by
  have hm : m < l.length := (List.getElem?_eq_some_iff.mp hc).1
  have g1 : ∀ y ∈ l.take (m + 1), c ≤ y := fun y hy => by
    obtain ⟨i, hi⟩ := List.mem_iff_getElem?.mp hy
    rw [List.getElem?_take] at hi
    split at hi
    · rename_i z
      by_cases e : i = m
      · subst e
        rw [hc] at hi
        have := Option.some.inj hi
        omega
      · exact sorted_at hs (show i < m by omega) hi hc
    · cases hi
  have g2 : ∀ y ∈ l.drop (m + 1), y ≤ c := fun y hy => by
    obtain ⟨i, hi⟩ := List.mem_iff_getElem?.mp hy
    rw [List.getElem?_drop] at hi
    exact sorted_at hs (show m < m + 1 + i by omega) hc hi
  have h1 := F_above g1
  have h2 := F_below g2
  have h3 := F_app c (l.take (m + 1)) (l.drop (m + 1))
  rw [List.take_append_drop] at h3
  rw [List.length_take, Nat.min_eq_left (by omega)] at h1
  omega
/-- majorized: as many, and no more above any level -/
def Le (ms ns : List Int) : Prop := ms.length = ns.length ∧ ∀ c, F c ms ≤ F c ns
theorem Le.refl (a : List Int) : Le a a := ⟨rfl, fun _ => Int.le_refl _⟩
theorem Le.trans {a b c : List Int} (h : Le a b) (k : Le b c) : Le a c := ⟨h.1.trans k.1, fun x => Int.le_trans (h.2 x) (k.2 x)⟩
theorem Le.tops {ms ns : List Int} (h : Le ms ns) {k : Nat} (hk : k ≤ ns.length) : ((sd ms).take k).sum ≤ ((sd ns).take k).sum := by
  cases k with
  | zero => simp
  | succ m =>
    have hx := getD_at (l := sd ns) (i := m) (by rw [sd_len]; omega)
    generalize (sd ns).getD m 0 = c at hx
    have h1 := top_eq (sd_sorted ns) hx
    have h2 := top_le c (sd ms) (k := m + 1) (by rw [sd_len, h.1]; exact hk)
    have h3 := h.2 c
    rw [F_perm c (sd_perm ns)] at h1
    rw [F_perm c (sd_perm ms)] at h2
    omega
theorem Le.of_tops {ms ns : List Int} (hl : ms.length = ns.length) (h : ∀ k, k ≤ ns.length → ((sd ms).take k).sum ≤ ((sd ns).take k).sum) : Le ms ns := by
  refine ⟨hl, fun c => ?_⟩
  -- take k: how many of ms hold more than c
  have hms : ∀ l : List Int, l.Pairwise (· ≥ ·) → ∃ k, k ≤ l.length ∧ F c l = (l.take k).sum - (k : Int) * c := by
    intro l
    induction l with
    | nil => intro _; exact ⟨0, Nat.le_refl _, by simp [F]⟩
    | cons x l ih =>
      intro hp
      obtain ⟨h1, h2⟩ := List.pairwise_cons.mp hp
      by_cases hx : c ≤ x
      · obtain ⟨k, hk, e⟩ := ih h2
        refine ⟨k + 1, by rw [List.length_cons]; omega, ?_⟩
        have e3 : F c (x :: l) = ab c x + F c l := by unfold F; rw [List.map_cons, List.sum_cons]
        have e2 : ((k + 1 : Nat) : Int) * c = (k : Int) * c + c := by
          rw [Int.natCast_add, Int.add_mul]
          show _ + 1 * c = _
          rw [Int.one_mul]
        rw [e3, e, List.take_succ_cons, List.sum_cons, e2]
        unfold ab
        omega
      · refine ⟨0, Nat.zero_le _, ?_⟩
        have e4 : F c (x :: l) = 0 := F_below fun y hy => by
          rcases List.mem_cons.mp hy with rfl | hy
          · omega
          · have h3 := h1 y hy
            omega
        rw [e4]
        simp
  obtain ⟨k, hk, e⟩ := hms _ (sd_sorted ms)
  rw [sd_len] at hk
  rw [F_perm c (sd_perm ms)] at e
  have h2 := top_le c (sd ns) (k := k) (by rw [sd_len]; omega)
  rw [F_perm c (sd_perm ns)] at h2
  have h3 := h k (by omega)
  omega
theorem le_done {ns : List Int} {g t d : Int} (h : Fits ns g t d) : Le (done ns g t d) ns := by
  refine ⟨done_len _ _ _ _, fun c => ?_⟩
  have e := msum_done (ab c) h
  unfold F
  rw [e]
  have h1 := h.more
  have h2 := h.d1
  unfold ab
  omega
theorem le_level (ns : List Int) : Le (level ns.length ns.sum) ns := Le.of_tops (level_len _ _) fun k hk => by
  rw [sd_level]
  have h := level_below (sd_sorted ns) (k := k) (by rw [sd_len]; exact hk)
  rw [sd_len, perm_sum (sd_perm ns)] at h
  exact h
theorem bd_done {n : Nat} {ns : List Int} {g t d : Int} (h : Fits ns g t d) (hb : ∀ z ∈ ns, Px.Bd n z) : ∀ z ∈ done ns g t d, Px.Bd n z := by
  have h1 := h.g0
  have h2 := h.gn
  have h3 := h.t0
  have h4 := h.tn
  have h5 := h.more
  have h6 := h.d1
  have b1 : Px.Bd n (ns.getD g.toNat 0) := hb _ (by
    have e := getD_at (l := ns) (i := g.toNat) (by omega)
    exact List.mem_of_getElem? e)
  have b2 : Px.Bd n (ns.getD t.toNat 0) := hb _ (by
    have e := getD_at (l := ns) (i := t.toNat) (by omega)
    exact List.mem_of_getElem? e)
  intro z hz
  unfold done at hz
  rcases List.mem_or_eq_of_mem_set hz with hz | rfl
  · rcases List.mem_or_eq_of_mem_set hz with hz | rfl
    · exact hb z hz
    · unfold Px.Bd at *
      omega
  · unfold Px.Bd at *
    omega
/-- a list of gifts, one by one -/
abbrev Gift := Int × Int × Int
def walk : List Int → List Gift → Option (List Int)
  | ns, [] => some ns
  | ns, (g, t, d) :: r => if fitsB ns g t d = true then walk (done ns g t d) r else none
theorem walk_app : ∀ (ns : List Int) (a b : List Gift), walk ns (a ++ b) = (walk ns a).bind fun ms => walk ms b
  | ns, [], b => rfl
  | ns, (g, t, d) :: a, b => by
    show (if fitsB ns g t d = true then walk (done ns g t d) (a ++ b) else none) = (if fitsB ns g t d = true then walk (done ns g t d) a else none).bind _
    by_cases h : fitsB ns g t d = true
    · rw [if_pos h, if_pos h]
      exact walk_app _ a b
    · rw [if_neg h, if_neg h]
      rfl
theorem walk_one {ns : List Int} {g t d : Int} (h : Fits ns g t d) : walk ns [(g, t, d)] = some (done ns g t d) := by
  show (if fitsB ns g t d = true then some (done ns g t d) else none) = _
  rw [if_pos (fitsB_iff.mpr h)]
theorem walk_bad {ns : List Int} {g t d : Int} {r : List Gift} (h : ¬ Fits ns g t d) : walk ns ((g, t, d) :: r) = none := by
  show (if fitsB ns g t d = true then walk (done ns g t d) r else none) = none
  rw [if_neg fun z => h (fitsB_iff.mp z)]
theorem walk_snoc {ns ms : List Int} {a : List Gift} {g t d : Int} (h : walk ns a = some ms) (k : Fits ms g t d) : walk ns (a ++ [(g, t, d)]) = some (done ms g t d) := by
  rw [walk_app, h]
  exact walk_one k
theorem walk_stop {ns ms : List Int} {a b : List Gift} {g t d : Int} (h : walk ns a = some ms) (k : ¬ Fits ms g t d) : walk ns (a ++ (g, t, d) :: b) = none := by
  rw [walk_app, h]
  exact walk_bad k
theorem walk_len : ∀ {ns ms : List Int} {a : List Gift}, walk ns a = some ms → ms.length = ns.length
  | ns, ms, [], h => by
    have e : ns = ms := Option.some.inj h
    rw [e]
  | ns, ms, (g, t, d) :: a, h => by
    have h2 : (if fitsB ns g t d = true then walk (done ns g t d) a else none) = some ms := h
    split at h2
    · rw [walk_len h2, done_len]
    · cases h2
theorem walk_le : ∀ {ns ms : List Int} {a : List Gift}, walk ns a = some ms → Le ms ns ∧ ms.sum = ns.sum
  | ns, ms, [], h => by
    have e : ns = ms := Option.some.inj h
    rw [e]
    exact ⟨Le.refl _, rfl⟩
  | ns, ms, (g, t, d) :: a, h => by
    have h2 : (if fitsB ns g t d = true then walk (done ns g t d) a else none) = some ms := h
    split at h2
    · rename_i c
      have f := fitsB_iff.mp c
      have h3 := walk_le h2
      exact ⟨h3.1.trans (le_done f), h3.2.trans (sum_done f)⟩
    · cases h2
end Pg

set_option Elab.async false
set_option linter.all false
set_option maxRecDepth 100000
set_option maxHeartbeats 4000000
/-! Pq: more of the calculus: comprehensions told by a word, tuples cut and walked, except clauses one after the other. -/
namespace Px
open PySem PySem.Spec PyProof.Rows L2 Evl
theorem blkOk_rel {N : List Str} {outer inner : Scope} {env e0 : Env} {own : List (Str × Nat)} (hd : blkC N (relabel outer e0) inner own = true) (h : relabel outer env = relabel outer e0 := by rfl) : BlkOk N (relabel outer env) inner own := h ▸ blkOk_by hd
theorem boot_ValueError : bootBuiltins "ValueError" = some (.type "ValueError") := by decide +kernel
section
variable {K : PySem.W.Frag} {σ : L2.St} {H H' : Hp} {ta tb tc te tx : TE} {t u : TT} {x y z v : V} {r r' : R2} {P : V → Hp → Prop} {D : Ends} {s s2 w : TS}
theorem r_eqB {a b : Bool} (h : P (.bl (decide (a = b))) H) : RK rEq (.bl a) (.bl b) H P := r_eq ⟨rfl, by
  have e : decide (V.bl a = V.bl b) = decide (a = b) := by
    by_cases c : a = b
    · subst c
      rw [decide_eq_true rfl, decide_eq_true rfl]
    · rw [decide_eq_false c, decide_eq_false fun z => c (V.bl.inj z)]
  rw [e]
  exact h⟩
theorem r_neB {a b : Bool} (h : P (.bl (!decide (a = b))) H) : RK rNe (.bl a) (.bl b) H P := r_ne ⟨rfl, by
  have e : decide (V.bl a = V.bl b) = decide (a = b) := by
    by_cases c : a = b
    · subst c
      rw [decide_eq_true rfl, decide_eq_true rfl]
    · rw [decide_eq_false c, decide_eq_false fun z => c (V.bl.inj z)]
  rw [e]
  exact h⟩
theorem r_eqT {a b : Str} (h : P (.bl (decide (a = b))) H) : RK rEq (.str a) (.str b) H P := r_eq ⟨rfl, by
  have e : decide (V.str a = V.str b) = decide (a = b) := by
    by_cases c : a = b
    · subst c
      rw [decide_eq_true rfl, decide_eq_true rfl]
    · rw [decide_eq_false c, decide_eq_false fun z => c (V.str.inj z)]
  rw [e]
  exact h⟩
theorem r_neT {a b : Str} (h : P (.bl (!decide (a = b))) H) : RK rNe (.str a) (.str b) H P := r_ne ⟨rfl, by
  have e : decide (V.str a = V.str b) = decide (a = b) := by
    by_cases c : a = b
    · subst c
      rw [decide_eq_true rfl, decide_eq_true rfl]
    · rw [decide_eq_false c, decide_eq_false fun z => c (V.str.inj z)]
  rw [e]
  exact h⟩
theorem c_abs {i : Int} (hp : P (.int (if i < 0 then -i else i)) H) : CK (fun xs H Q => ∃ i, xs = [.int i] ∧ Q (.int (if i < 0 then -i else i)) H) [.int i] H P := fun H1 e Q k => ⟨i, rfl, k _ _ ⟨H, e, hp⟩⟩
theorem r_slT {p : Addr} {xs : List V} {lo hi : Option Int} (h : SqT K H p xs) (hw : ¬ (HT.sIx xs.length 0 lo = 0 ∧ HT.sIx xs.length xs.length hi = xs.length)) (hp : ∀ q, H q = none → P (.ref q) (upd H q (.tup (cutV xs lo hi)))) : Kc (rSlT K (.ref p) lo hi) H P := fun H1 e Q k => ⟨p, xs, rfl, ex_t e h, hw, fun q nq => k _ _ ⟨_, Ex.updm e, hp q (fresh_back e nq)⟩⟩
/-- over a tuple that is made on the way -/
theorem gs_forT {j : Nat} (h : EvK te σ H fun v Hx => ∃ (a : Addr) (xs : List V) (Pv : Nat → L2.St → Hp → Prop), v = .ref a ∧ SqT K Hx a xs ∧ Pv 0 σ Hx ∧ (∀ i σ' H', i ≤ xs.length → Pv i σ' H' → SqT K H' a xs) ∧
    (∀ i x σ' H', xs[i]? = some x → Pv i σ' H' → Go s { D with nx := Lp Pv (i + 1), ct := Lp Pv (i + 1), bk := w D } (σ'.set j (some x)) H') ∧ (∀ σ' H', Pv xs.length σ' H' → Go w D σ' H')) : Go (tSeq (tFor (iTup K te) (gName j) s) w) D σ H := fun H1 e =>
  h H1 e _ fun v H2 ⟨Hx, ex, a, xs, Pv, ev, hq, h0, hl, hs, hd⟩ => ⟨a, ev, ⟨xs, ex_t ex hq⟩, for_tup (D := { D with nx := w D }) (Lp Pv) ⟨Hx, ex, h0⟩ (fun i σ' H' hi ⟨Hy, ey, p⟩ => ex_t ey (hl i σ' Hy hi p)) (fun i x σ' H' hi ⟨Hy, ey, p⟩ => hs i x σ' Hy hi p H' ey) (fun σ' H' ⟨Hy, ey, p⟩ => hd σ' Hy p H' ey)⟩

theorem cut_fromN {xs : List V} {k : Nat} (h : k ≤ xs.length) : cutV xs (some (k : Int)) none = xs.drop k := by
  unfold cutV
  rw [show HT.sIx xs.length 0 (some (k : Int)) = min k xs.length from HT.sIx_nat xs.length 0 k, HT.sIx_none, Nat.min_eq_left h]
  exact List.take_of_length_le (by rw [List.length_drop]; omega)
theorem dp_two {h x y : Addr} {ns ms : List Int} (hh : SqL K H h [.ref x, .ref y]) (hx : SqL K H x (ns.map V.int)) (hy : SqL K H y (ms.map V.int)) : Dp K H (.ref h) (.list [.list (ns.map PyData.int), .list (ms.map PyData.int)]) := .lst hh (.cons (dp_ints hx) (.cons (dp_ints hy) .nil))
theorem sh_two (ns ms : List Int) : SeqAt.shaped (.list [.list (ns.map PyData.int), .list (ms.map PyData.int)]) = true := by
  show ((PyData.canLayAll0 (ns.map PyData.int) && (PyData.canLayAll0 (ms.map PyData.int) && true)) && decide (max (PyData.depthAll (ns.map PyData.int) + 1) (max (PyData.depthAll (ms.map PyData.int) + 1) 0) + 1 ≤ 64)) = true
  rw [lay_ints, lay_ints, dep_ints, dep_ints]
  rfl
/-! ### try -/
def tTry (tb : WX → TS) (W : Ends → WX) : TS := fun D σ H => tb (W D) D σ H
theorem gs_try {tb : WX → TS} {W : Ends → WX} (h : Go (tb (W { D with nx := w D })) { D with nx := w D } σ H) : Go (tSeq (tTry tb W) w) D σ H := h
theorem g1_try {tb : WX → TS} {W : Ends → WX} (h : Go (tb (W D)) D σ H) : Go (tTry tb W) D σ H := h
theorem ps_tryAs {X : Cx} {x n : Str} {c : Value} {i : Nat} {body suite : List Stmt} {b₀ : Stmt} {np pos pos' : Pos} {tb : WX → TS} {ts : Addr → Value → Option Addr → TS} {Wout : WX} (hs : X.stack = X.env :: X.outer) (hf : X.env.frame = some X.env.locals) (hN : X.N.Nodup) (hi : X.N[i]? = some n) (hln : X.env.kindOf n = some .local) (hc : Names X x c) (tk : Takes X Wout)
    (hb : ∀ (W : WX) (pn : List (Addr × Obj)) (xe : Value → Shared → Prop), Takes (X.tr pn xe) W → PassesOwn (model X.prog X.w) X.A X.env xe → PSs (X.tr pn xe) body (tb W))
    (hsu : ∀ (a : Addr) (oe : Obj) (cls : Value) (d : Option Addr) (pn : List (Addr × Obj)), Zc cls d oe → (∃ vs, oe.data = .fields vs) → PSs (X.suite a ((a, oe) :: pn)) (b₀ :: suite) (ts a cls d)) (hK : X.K = K := by rfl) :
    PS X (.Try body [.ExceptHandler (some (.Name x np)) (some n) (b₀ :: suite) pos'] [] [] pos) (tTry tb (wAs K c i ts Wout)) := by
  subst hK
  exact ps_try_as hs hf hN hi hln hc tk hb hsu
theorem ps_tryMany {X : Cx} {body : List Stmt} {h₀ : ExceptHandler} {hds : List ExceptHandler} {l : List (Value × (Addr → Value → Option Addr → TS))} {pos : Pos} {tb : WX → TS} {Wout : WX} (hs : X.stack = X.env :: X.outer) (hf : X.env.frame = some X.env.locals) (tk : Takes X Wout)
    (hb : ∀ (W : WX) (pn : List (Addr × Obj)) (xe : Value → Shared → Prop), Takes (X.tr pn xe) W → PassesOwn (model X.prog X.w) X.A X.env xe → PSs (X.tr pn xe) body (tb W))
    (hh : HdsOk X (h₀ :: hds) l) (hK : X.K = K := by rfl) : PS X (.Try body (h₀ :: hds) [] [] pos) (tTry tb (fun D => wMany K Wout D l)) := by
  subst hK
  exact ps_try_many hs hf tk hb hh
/-- the last assignment of a suite of 'except .. as n' (slot k) -/
theorem g1_asgA {i k : Nat} (h : EvK te σ H fun v Hx => Go w D ((σ.set i (some v)).set k none) Hx) : Go (tAsg te (gName i)) { nx := fun σ' H' => Ends.nx { D with nx := w D } (σ'.set k none) H', rt := Ends.rt { D with nx := w D }, bk := fun σ' H' => Ends.bk { D with nx := w D } (σ'.set k none) H', ct := fun σ' H' => Ends.ct { D with nx := w D } (σ'.set k none) H' } σ H := g1_asg h
/-! ### except clauses, one after the other -/
theorem ke_yes {c : Value} {ts : Addr → Value → Option Addr → TS} {Wout : WX} {l : List (Value × (Addr → Value → Option Addr → TS))} {cls : Value} {d : Option Addr} (he : PySem.W.exmOne K cls c = some true)
    (h : ∀ a, H a = none → Go (ts a cls d) D σ H) : KE (WE (wMany K Wout D ((c, ts) :: l)) σ) cls d H := fun H1 e => ⟨true, he, fun _ a na => h a (fresh_back e na) H1 e, fun q => Bool.noConfusion q⟩
theorem ke_no {c : Value} {ts : Addr → Value → Option Addr → TS} {Wout : WX} {l : List (Value × (Addr → Value → Option Addr → TS))} {cls : Value} {d : Option Addr} (he : PySem.W.exmOne K cls c = some false)
    (h : KE (WE (wMany K Wout D l) σ) cls d H) : KE (WE (wMany K Wout D ((c, ts) :: l)) σ) cls d H := fun H1 e => ⟨false, he, fun q => Bool.noConfusion q, fun _ => h H1 e⟩

/-! ### comprehensions told by a word: the list so far at D, the heap that matters -/
theorem k_lcW {g : TG} {tt : TT} {vs : List Nat} {tl : TE} (h : EvK tl σ H fun w Hx => ∃ (a : Addr) (xs : List V) (Pv : Addr → Nat → List V → Hp → Prop), w = .ref a ∧ xs.length ≤ 40000 ∧ SqL K Hx a xs ∧
      (∀ D, Hx D = none → Pv D 0 [] (upd Hx D (.lst []))) ∧ (∀ D i acc Hy, Hx D = none → Pv D i acc Hy → SqL K Hy a xs ∧ acc.length ≤ i ∧ Hy D = some (.lst acc)) ∧
      (∀ D i x acc Hy, Hx D = none → xs[i]? = some x → Pv D i acc Hy → GK g x (wipe σ vs) Hy fun σ2 H2 => wipe σ2 vs = wipe σ vs ∧ EvTK tt σ2 H2 fun b H3 => (b = true → EvK te σ2 H3 fun y H4 => H4 D = some (.lst acc) ∧ Pv D (i + 1) (acc ++ [y]) (upd H4 D (.lst (acc ++ [y])))) ∧ (b = false → Pv D (i + 1) acc H3)) ∧
      (∀ D acc Hy, Hx D = none → Pv D xs.length acc Hy → P (.ref D) Hy)) : EvK (tLc (iList K tl) g tt te vs) σ H P := fun H1 e Q k =>
  h H1 e _ fun w H2 ⟨Hx, ex, a, xs, Pv, ev, hn, hq, h0, hl, hs, hd⟩ => ⟨a, ev, ⟨xs, ex_l ex hq⟩, fun p np => by
    have npx : Hx p = none := fresh_back ex np
    refine lc_list (xs := xs) (fun i H' => ∃ acc Hy, Ex Hy H' ∧ Pv p i acc Hy) ⟨[], _, Ex.updm ex, h0 p npx⟩ (fun i H' _ ⟨acc, Hy, ey, q⟩ => ex_l ey (hl p i acc Hy npx q).1) (fun i x H' hi ⟨acc, Hy, ey, q⟩ => ?_) (fun H' ⟨acc, Hy, ey, q⟩ => k _ _ ⟨Hy, ey, hd p acc Hy npx q⟩)
    have hlt : i < xs.length := (List.getElem?_eq_some_iff.mp hi).1
    obtain ⟨_, hal, haD⟩ := hl p i acc Hy npx q
    refine hs p i x acc Hy npx hi q H' ey _ fun σ2 H3 ⟨Hz, ez, hw, ht⟩ => ⟨hw, ht H3 ez _ fun b H4 ⟨Hu, eu, hT, hF⟩ => ?_⟩
    cases b with
    | true =>
      rw [if_pos rfl]
      exact hT rfl H4 eu _ fun y H5 ⟨Hv, ev, hD, q5⟩ => ⟨acc, ev _ _ hD, sz_lt (by omega), acc ++ [y], _, Ex.updm ev, q5⟩
    | false =>
      rw [if_neg Bool.false_ne_true]
      exact ⟨acc, Hu, eu, hF rfl⟩⟩
theorem k_lcWR {g : TG} {tt : TT} {vs : List Nat} {tl : TA} (h : EvAK tl σ H fun ws Hx => ∃ (n : Int) (Pv : Addr → Nat → List V → Hp → Prop), ws = [.int n] ∧ n ≤ 40000 ∧ 0 ≤ n ∧
      (∀ D, Hx D = none → Pv D 0 [] (upd Hx D (.lst []))) ∧ (∀ D i acc Hy, Hx D = none → Pv D i acc Hy → acc.length ≤ i ∧ Hy D = some (.lst acc)) ∧
      (∀ D (i : Nat) acc Hy, Hx D = none → (i : Int) < n → Pv D i acc Hy → GK g (.int (i : Int)) (wipe σ vs) Hy fun σ2 H2 => wipe σ2 vs = wipe σ vs ∧ EvTK tt σ2 H2 fun b H3 => (b = true → EvK te σ2 H3 fun y H4 => H4 D = some (.lst acc) ∧ Pv D (i + 1) (acc ++ [y]) (upd H4 D (.lst (acc ++ [y])))) ∧ (b = false → Pv D (i + 1) acc H3)) ∧
      (∀ D acc Hy, Hx D = none → Pv D n.toNat acc Hy → P (.ref D) Hy)) : EvK (tLc (iRng1 tl) g tt te vs) σ H P := fun H1 e Q k =>
  h H1 e _ fun w H2 ⟨Hx, ex, n, Pv, ev, hn, hn0, h0, hl, hs, hd⟩ => ⟨n, ev, by omega, by omega, fun p np => by
    have npx : Hx p = none := fresh_back ex np
    refine lc_range (lo := 0) (n := n.toNat) (fun i H' => ∃ acc Hy, Ex Hy H' ∧ Pv p i acc Hy) ⟨[], _, Ex.updm ex, h0 p npx⟩ (fun i H' hi ⟨acc, Hy, ey, q⟩ => ?_) (fun H' ⟨acc, Hy, ey, q⟩ => k _ _ ⟨Hy, ey, hd p acc Hy npx q⟩)
    obtain ⟨hal, haD⟩ := hl p i acc Hy npx q
    have e0 : (0 : Int) + (i : Int) = (i : Int) := Int.zero_add _
    show g (.int ((0 : Int) + (i : Int))) (wipe σ vs) H' _
    rw [e0]
    refine hs p i acc Hy npx (by omega) q H' ey _ fun σ2 H3 ⟨Hz, ez, hw, ht⟩ => ⟨hw, ht H3 ez _ fun b H4 ⟨Hu, eu, hT, hF⟩ => ?_⟩
    cases b with
    | true =>
      rw [if_pos rfl]
      exact hT rfl H4 eu _ fun y H5 ⟨Hv, ev, hD, q5⟩ => ⟨acc, ev _ _ hD, sz_lt (by omega), acc ++ [y], _, Ex.updm ev, q5⟩
    | false =>
      rw [if_neg Bool.false_ne_true]
      exact ⟨acc, Hu, eu, hF rfl⟩⟩
/-- [e for x, y in zip(xs, ys)], the targets names -/
theorem k_lcZ {i j : Nat} {vs : List Nat} {tl : TA} (f : V → V → V) (h : EvAK tl σ H fun ws Hx => ∃ (a b : Addr) (xs ys : List V), ws = [.ref a, .ref b] ∧ xs.length ≤ 40000 ∧ xs.length = ys.length ∧ SqL K Hx a xs ∧ SqL K Hx b ys ∧
      (∀ x y, wipe (((wipe σ vs).set i (some x)).set j (some y)) vs = wipe σ vs) ∧
      (∀ (k : Nat) x y Hz, xs[k]? = some x → ys[k]? = some y → Ex Hx Hz → EvK te (((wipe σ vs).set i (some x)).set j (some y)) Hz fun v Hy => v = f x y ∧ Hy = Hz) ∧ ∀ p, Hx p = none → P (.ref p) (upd Hx p (.lst (List.zipWith f xs ys)))) :
    EvK (tLc (iZip K tl) (gTup K 2 (gCons (gName i) (gCons (gName j) gNil))) tYes te vs) σ H P := fun H1 e Q k =>
  h H1 e _ fun w H2 ⟨Hx, ex, a, b, xs, ys, ev, hn, hxy, hqx, hqy, hw, hs, hd⟩ => ⟨a, b, xs, ys, ev, ex_l ex hqx, ex_l ex hqy, fun p np => by
    have npx : Hx p = none := fresh_back ex np
    refine ⟨fun i m H' => m = xs.length - i ∧ i ≤ xs.length ∧ Ex (upd Hx p (.lst ((List.zipWith f xs ys).take i))) H', ⟨xs.length, rfl, Nat.zero_le _, Ex.updm ex⟩, ?_⟩
    rintro n m H' ⟨rfl, hin, hH⟩
    have qx : SqL K H' a xs := ex_l hH (ex_l (Ex.new npx) hqx)
    have qy : SqL K H' b ys := ex_l hH (ex_l (Ex.new npx) hqy)
    by_cases hlt : n < xs.length
    · have hx : xs[n]? = some xs[n] := List.getElem?_eq_getElem hlt
      have hlt2 : n < ys.length := by omega
      have hy : ys[n]? = some ys[n] := List.getElem?_eq_getElem hlt2
      refine .inr ⟨⟨xs, ys, _, _, qx, qy, hx, hy⟩, fun H'' => Ex (upd Hx p (.lst ((List.zipWith f xs ys).take (n + 1)))) H'', fun H'' p' => ⟨xs.length - (n + 1), by omega, rfl, hlt, p'⟩, fun v H'' yy => ?_⟩
      obtain ⟨T, x', y', rfl, hT, rfl, f1, f2⟩ := yy
      have gx := f1 xs qx
      have gy := f2 ys qy
      have hT2 : (upd Hx p (.lst ((List.zipWith f xs ys).take n))) T = none := fresh_back hH hT
      have ex2 : Ex (upd Hx p (.lst ((List.zipWith f xs ys).take n))) (upd H' T (.tup [x', y'])) := hH.trans (Ex.new hT)
      refine gk_tup2 (K := K) (H := upd H' T (.tup [x', y'])) (st_of upd_same) (gk_name (gk_name (R := fun σ2 H2 => wipe σ2 vs = wipe σ vs ∧ σ2 = ((wipe σ vs).set i (some x')).set j (some y') ∧ H2 = upd H' T (.tup [x', y'])) ⟨hw _ _, rfl, rfl⟩)) _ (Ex.refl _) _ ?_
      rintro σ2 H3 ⟨_, e3, hw2, rfl, rfl⟩
      refine ⟨hw2, ?_⟩
      show te _ H3 _
      refine hs n x' y' (upd Hx p (.lst ((List.zipWith f xs ys).take n))) gx gy (Ex.new npx) H3 (ex2.trans e3) _ ?_
      rintro v H4 ⟨Hy, ey, rfl, rfl⟩
      refine ⟨_, ey p _ upd_same, sz_lt (by rw [List.length_take, List.length_zipWith]; omega), ?_⟩
      have e5 : (List.zipWith f xs ys).take (n + 1) = (List.zipWith f xs ys).take n ++ [f x' y'] := by
        rw [List.take_succ]
        congr 1
        rw [List.getElem?_zipWith, gx, gy]
        rfl
      rw [e5]
      exact Ex.updm (fun c u q => by
        by_cases hc : c = p
        · subst hc
          rw [npx] at q
          cases q
        · exact ey c u (by rw [upd_ne hc]; exact q))
    · have e : n = xs.length := by omega
      subst e
      refine .inl ⟨⟨xs, ys, qx, qy, Or.inl (Nat.le_refl _)⟩, k _ _ ⟨_, hH, ?_⟩⟩
      rw [List.take_of_length_le (by rw [List.length_zipWith]; omega)]
      exact hd p npx⟩
/-! ### more of comprehensions and lists -/
theorem k_lcI {a : Addr} {ns : List Int} {j : Nat} {vs : List Nat} {tl : TE} (g : Int → Int) (h : EvK tl σ H fun w Hx => w = .ref a ∧ SqL K Hx a (ns.map V.int) ∧ ns.length ≤ 40000 ∧ (∀ x, wipe ((wipe σ vs).set j (some x)) vs = wipe σ vs) ∧ (∀ z Hz, z ∈ ns → Ex Hx Hz → EvK te ((wipe σ vs).set j (some (.int z))) Hz fun v Hy => v = .int (g z) ∧ Hy = Hz) ∧ ∀ p, Hx p = none → P (.ref p) (upd Hx p (.lst ((ns.map g).map V.int)))) :
    EvK (tLc (iList K tl) (gName j) tYes te vs) σ H P := k_lcL (a := a) (xs := ns.map V.int) (fun _ v => match v with | .int z => .int (g z) | v => v) (h.imp fun w Hx ⟨h1, h2, h3, h4, h5, h6⟩ => ⟨h1, h2, by rw [List.length_map]; exact h3, h4, fun i x Hz hx ez => by
      rw [List.getElem?_map] at hx
      cases e : ns[i]? with
      | none => rw [e] at hx; cases hx
      | some z =>
        rw [e] at hx
        have ex := Option.some.inj hx
        subst ex
        exact h5 z Hz (List.mem_of_getElem? e) ez, fun p np => by
      have e : (ns.map V.int).mapIdx (fun _ v => match v with | .int z => V.int (g z) | v => v) = (ns.map g).map V.int := by
        apply List.ext_getElem?
        intro i
        rw [List.getElem?_mapIdx, List.getElem?_map, List.getElem?_map, List.getElem?_map]
        cases ns[i]? <;> rfl
      rw [e]
      exact h6 p np⟩)
theorem r_rep {l : Addr} {xs : List V} {n : Nat} (h : H l = some (.lst xs)) (hz : xs.length * n ≤ 100000) (hn : n ≤ 100000) (hp : ∀ p, H p = none → P (.ref p) (upd H p (.lst (List.replicate n xs).flatten))) : RK rRep (.ref l) (.int (n : Int)) H P := fun H1 e Q k =>
  ⟨l, (n : Int), xs, rfl, rfl, e _ _ h, by omega, by omega, by rw [Int.toNat_natCast]; exact sz_of hz, fun p np => by
    rw [Int.toNat_natCast]
    exact k _ _ ⟨_, Ex.updm e, hp p (fresh_back e np)⟩⟩
theorem rep_int (n : Nat) (z : Int) : (List.replicate n [V.int z]).flatten = (List.replicate n z).map V.int := by
  rw [List.flatten_replicate_singleton, List.map_replicate]
theorem k_lstRg (h : EvK ta σ H fun x Hx => ∃ n : Nat, x = .int (n : Int) ∧ n ≤ 100000 ∧ ∀ q, Hx q = none → P (.ref q) (upd Hx q (.lst (((List.range n).map fun (i : Nat) => (i : Int)).map V.int)))) : EvK (tLstRg (tRg1 ta)) σ H P := fun H1 e Q k =>
  h H1 e _ fun x H2 ⟨Hx, ex, n, ev, hn, hp⟩ => ⟨(n : Int), ev, RgOk.of_le (by omega) (by omega) (by omega) (by omega), fun q nq => by
    have e5 : rgV 0 (n : Int) = ((List.range n).map fun (i : Nat) => (i : Int)).map V.int := by
      unfold rgV
      rw [Int.sub_zero, Int.toNat_natCast, List.map_map]
      refine List.map_congr_left fun i _ => ?_
      show V.int ((0 : Int) + (i : Int)) = V.int (i : Int)
      rw [Int.zero_add]
    rw [e5]
    exact k _ _ ⟨_, Ex.updm ex, hp q (fresh_back ex nq)⟩⟩
end
end Px

set_option Elab.async false
set_option linter.all false
set_option maxRecDepth 100000
set_option maxHeartbeats 400000
/-! Pn: texts in the calculus; the words that gifts are written with. -/
namespace Px
open PySem PySem.Spec PyProof.Rows L2 Evl SX
section
variable {K : PySem.W.Frag} {σ : L2.St} {H H' : Hp} {ta tb tc te to tx : TE} {x y z v : V} {P : V → Hp → Prop} {D : Ends} {s s2 w : TS}
theorem k_m1 {r : V → List V → Hp → VK → Prop} (h : EvK to σ H fun x Hx => (∃ a, x = .str a) ∧ EvK te σ Hx fun y Hy => Kc (r x [y]) Hy P) : EvK (tM1 r to te) σ H P := fun H1 e Q k =>
  h H1 e _ fun x H2 ⟨Hx, ex, hs, h2⟩ => ⟨hs, h2 H2 ex _ fun y H3 ⟨Hy, ey, h3⟩ => h3 H3 ey Q k⟩
theorem r_addS {i j : List Nat} (hz : i.length + j.length ≤ 100000) (h : P (.str (S (i ++ j))) H) : RK (fun x y H Q => ∃ i j, x = .str i ∧ y = .str j ∧ i.length + j.length ≤ sizeLine ∧ Q (.str (i ++ j)) H) (.str (S i)) (.str (S j)) H P := fun H1 e Q k =>
  ⟨S i, S j, rfl, rfl, by rw [S_len, S_len]; exact sz_of hz, by rw [S_cat]; exact k _ _ ⟨H, e, h⟩⟩
theorem c_strN {n : Nat} (hz : n.log2 < 1920) (h : P (.str (S (TL.numL n))) H) : CK (fun xs H Q => ∃ i, xs = [.int i] ∧ i.natAbs.log2 < 1920 ∧ Q (.str (toString i)) H) [.int (n : Int)] H P := fun H1 e Q k =>
  ⟨(n : Int), rfl, hz, by
    have e2 : (Str.ofString (toString ((n : Nat) : Int))) = S (TL.numL n) := num_S n
    show Q (.str (Str.ofString (toString ((n : Nat) : Int)))) H1
    rw [e2]
    exact k _ _ ⟨H, e, h⟩⟩
theorem c_strI {i : Int} (h0 : 0 ≤ i) (hz : Bd 1900 i) (h : P (.str (S (TL.numL i.toNat))) H) : CK (fun xs H Q => ∃ i, xs = [.int i] ∧ i.natAbs.log2 < 1920 ∧ Q (.str (toString i)) H) [.int i] H P := by
  have e : i = (i.toNat : Int) := by omega
  have hb : i.toNat < 2 ^ 1900 := by
    unfold Bd at hz
    omega
  rw [e]
  refine c_strN ?_ h
  by_cases c : i.toNat = 0
  · rw [c]
    decide
  · exact Nat.lt_trans ((Nat.log2_lt c).mpr hb) (by decide)
theorem lit_gt : Str.ofString ">" = S [62] := by decide +kernel
theorem lit_col : Str.ofString ":" = S [58] := by decide +kernel
theorem lit_sp : Str.ofString " " = S [32] := by decide +kernel
theorem lit_0 : Str.ofString "0" = S [48] := by decide +kernel
theorem lit_e : Str.ofString "" = S [] := by decide +kernel
theorem r_addL {i j : List Nat} {t : Str} (ht : t = S j) (hz : i.length + j.length ≤ 100000) (h : P (.str (S (i ++ j))) H) : RK (fun x y H Q => ∃ i j, x = .str i ∧ y = .str j ∧ i.length + j.length ≤ sizeLine ∧ Q (.str (i ++ j)) H) (.str (S i)) (.str t) H P := by
  rw [ht]
  exact r_addS hz h
theorem S_dec (a b : List Nat) : decide (S a = S b) = decide (a = b) := by
  by_cases c : a = b
  · subst c
    rw [decide_eq_true rfl, decide_eq_true rfl]
  · rw [decide_eq_false c, decide_eq_false fun h => c (S_inj h)]
theorem r_eqL {i j : List Nat} {t : Str} (ht : t = S j) (h : P (.bl (decide (i = j))) H) : RK rEq (.str (S i)) (.str t) H P := by
  rw [ht]
  refine r_eqT ?_
  rw [S_dec]
  exact h
theorem r_neL {i j : List Nat} {t : Str} (ht : t = S j) (h : P (.bl (!decide (i = j))) H) : RK rNe (.str (S i)) (.str t) H P := by
  rw [ht]
  refine r_neT ?_
  rw [S_dec]
  exact h
def rJoin (K : PySem.W.Frag) : V → List V → Hp → VK → Prop := fun x xs H Q => ∃ a p, ∃ ys : List Str, x = .str a ∧ xs = [.ref p] ∧ (SqL K H p (ys.map V.str) ∨ SqT K H p (ys.map V.str)) ∧
      (ys.map (·.length)).sum + ys.length * a.length ≤ 16777216 ∧ Q (.str (Txt.join a ys)) H
theorem pe_joinK {X : Cx} {o e : Expr} {apos pos : Pos} (ho : PE X o to) (he : PE X e te) (hK : X.K = K := by rfl) (hs : starEach [e] X.env = [(false, eval e X.env)] := by rfl) (hbase : attributeBase o "join" X.env (eval o X.env) = eval o X.env := by rfl) (hline : (apos.endLine == pos.line) = true := by rfl) :
    PE X (.Call (.Attribute o "join" apos) [e] [] pos) (tM1 (rJoin K) to te) := by
  subst hK
  exact pe_join ho he hs hbase hline
theorem m_split {a : List Nat} {c : Nat} {t : Str} (ht : t = S [c]) (hc : c < 256) (hl : a.length ≤ 90000) (hp : ∀ p, H p = none → P (.ref p) (upd H p (.lst (((TL.spl [c] 0 [] a).map S).map V.str)))) :
    Kc ((fun (x : V) (xs : List V) (H : Hp) (Q : VK) => ∃ a b, x = .str a ∧ xs = [.str b] ∧ (b.length == 0) = false ∧ a.length + 2 ≤ sizeLine ∧ rNewStrs (Txt.split a b) H Q) (.str (S a)) [.str t]) H P := fun H1 e Q k => by
  subst ht
  exact ⟨S a, S [c], rfl, rfl, rfl, by rw [S_len]; exact sz_of (n := a.length + 2) (by omega), fun p np => by
    rw [split_S (List.cons_ne_nil _ _) (by simp [hc])]
    exact k _ _ ⟨_, Ex.updm e, hp p (fresh_back e np)⟩⟩
theorem m_part {a : List Nat} {c : Nat} {t : Str} (ht : t = S [c]) (hl : a.length ≤ 100000) (hp : ∀ p, H p = none → P (.ref p) (upd H p (.tup [.str (Txt.partition (S a) (S [c])).1, .str (Txt.partition (S a) (S [c])).2.1, .str (Txt.partition (S a) (S [c])).2.2]))) :
    Kc ((fun (x : V) (xs : List V) (H : Hp) (Q : VK) => ∃ a b, x = .str a ∧ xs = [.str b] ∧ (b.length == 0) = false ∧ a.length ≤ sizeLine ∧
      ∀ p, H p = none → Q (.ref p) (upd H p (.tup [.str (Txt.partition a b).1, .str (Txt.partition a b).2.1, .str (Txt.partition a b).2.2]))) (.str (S a)) [.str t]) H P := fun H1 e Q k => by
  subst ht
  exact ⟨S a, S [c], rfl, rfl, rfl, by rw [S_len]; exact sz_of hl, fun p np => k _ _ ⟨_, Ex.updm e, hp p (fresh_back e np)⟩⟩
theorem m_join {a : List Nat} {p : Addr} {ys : List (List Nat)} {t : Str} (ht : t = S a) (h : SqL K H p ((ys.map S).map V.str)) (hl : (ys.map (·.length)).sum + ys.length * a.length ≤ 16777216) (hp : P (.str (S (TL.joinL a ys))) H) :
    Kc (rJoin K (.str t) [.ref p]) H P := fun H1 e Q k => by
  subst ht
  exact ⟨S a, p, ys.map S, rfl, rfl, .inl (ex_l e h), by rw [lens, S_len, List.length_map]; exact hl, by rw [join_S]; exact k _ _ ⟨H, e, hp⟩⟩
theorem r_ixS {l : List Nat} {i : Int} {c : Nat} (hl : l.length ≤ 100000) (ha : atI l i = some c) (hp : P (.str (S [c])) H) : RK rIxS (.str (S l)) (.int i) H P := fun H1 e Q k =>
  ⟨S l, i, c, rfl, rfl, by rw [S_len]; exact sz_of hl, ha, k _ _ ⟨H, e, hp⟩⟩
theorem r_notInS {l : List Nat} {c : Nat} (hp : P (.bl (!decide (c ∈ l))) H) : RK (fun x y H Q => ∃ (c : Nat) (z : Str), x = .str ⟨#[c]⟩ ∧ y = .str z ∧ Q (.bl (!decide (c ∈ z.cps.toList))) H) (.str (S [c])) (.str (S l)) H P := fun H1 e Q k =>
  ⟨c, S l, rfl, rfl, k _ _ ⟨H, e, hp⟩⟩
theorem c_lenS {l : List Nat} (hl : l.length ≤ 100000) (hp : P (.int (l.length : Int)) H) : CK (fun xs H Q => ∃ z : Str, xs = [.str z] ∧ z.length ≤ sizeLine ∧ Q (.int z.length) H) [.str (S l)] H P := fun H1 e Q k =>
  ⟨S l, rfl, by rw [S_len]; exact sz_of hl, by rw [S_len]; exact k _ _ ⟨H, e, hp⟩⟩
theorem c_intS {l : List Nat} {n : Int} (ht : intText? (S l) = some n) (hl : l.length ≤ 640) (hp : P (.int n) H) : CK (fun xs H Q => ∃ a n, xs = [.str a] ∧ PySem.intText? a = some n ∧ a.length ≤ 640 ∧ Q (.int n) H) [.str (S l)] H P := fun H1 e Q k =>
  ⟨S l, n, rfl, ht, by rw [S_len]; exact hl, k _ _ ⟨H, e, hp⟩⟩
/-- over the signs of a text -/
theorem gs_forS {j : Nat} (h : EvK te σ H fun v Hx => ∃ (l : List Nat) (Pv : Nat → L2.St → Hp → Prop), v = .str (S l) ∧ Pv 0 σ Hx ∧
    (∀ i c σ' H', l[i]? = some c → Pv i σ' H' → Go s { D with nx := Lp Pv (i + 1), ct := Lp Pv (i + 1), bk := w D } (σ'.set j (some (.str (S [c])))) H') ∧ (∀ σ' H', Pv l.length σ' H' → Go w D σ' H')) : Go (tSeq (tFor (iStr te) (gName j) s) w) D σ H := fun H1 e =>
  h H1 e _ fun v H2 ⟨Hx, ex, l, Pv, ev, h0, hs, hd⟩ => ⟨S l, ev, by
    have hsz : (S l).cps.size = l.length := List.size_toArray
    refine ⟨fun i m σ H => m = l.length - i ∧ i ≤ l.length ∧ Lp Pv i σ H, ⟨l.length, rfl, Nat.zero_le _, Hx, ex, h0⟩, ?_⟩
    rintro i m σ' H' ⟨rfl, hi, p⟩
    by_cases hlt : i < l.length
    · refine .inr ⟨by show i < (S l).cps.size; rw [hsz]; exact hlt, Lp Pv (i + 1), fun σ' H' p' => ⟨l.length - (i + 1), by omega, rfl, hlt, p'⟩, fun v H'' y => ?_⟩
      obtain ⟨rfl, c, hc, rfl⟩ := y
      have hc2 : l[i]? = some c := by
        have e2 : (S l).cps[i]? = l[i]? := List.getElem?_toArray
        rw [← e2]
        exact hc
      obtain ⟨Hy, ey, p⟩ := p
      exact hs i c σ' Hy hc2 p _ ey
    · have ei : i = l.length := by omega
      subst ei
      obtain ⟨Hy, ey, p⟩ := p
      exact .inl ⟨by show (S l).cps.size ≤ _; rw [hsz]; exact Nat.le_refl _, hd σ' Hy p _ ey⟩⟩
end
end Px
namespace Pn
open PySem SX TL
/-- a gift that the notes write -/
structure Gd (z : Pg.Gift) : Prop where
  g0 : 0 ≤ z.1
  g1 : z.1 < 100
  t0 : 0 ≤ z.2.1
  t1 : z.2.1 < 100
  ne : z.1 ≠ z.2.1
  d0 : 1 ≤ z.2.2
  d1 : z.2.2 < 10 ^ 61
def ends (z : Pg.Gift) : List Nat := numL z.1.toNat ++ ([62] ++ numL z.2.1.toNat)
def wl (z : Pg.Gift) : List Nat := ends z ++ ([58] ++ numL z.2.2.toNat)
def fig : List Nat := [48, 49, 50, 51, 52, 53, 54, 55, 56, 57]
theorem fig_of {n c : Nat} (h : c ∈ numL n) : c ∈ fig := by
  have r := numL_digits n c h
  have r2 : c = 48 ∨ c = 49 ∨ c = 50 ∨ c = 51 ∨ c = 52 ∨ c = 53 ∨ c = 54 ∨ c = 55 ∨ c = 56 ∨ c = 57 := by omega
  unfold fig
  simpa using r2
theorem head0 : ∀ (n : Nat) (r : List Nat), numL n = 48 :: r → n = 0 := fun n => by
  induction n using Nat.strongRecOn with
  | _ n ih =>
    intro r h
    by_cases c : n < 10
    · rw [numL_lt c] at h
      have := (List.cons.inj h).1
      omega
    · rw [numL_step (by omega)] at h
      cases e : numL (n / 10) with
      | nil => exact absurd e (numL_ne _)
      | cons x l =>
        rw [e] at h
        have h1 := (List.cons.inj h).1
        rw [h1] at e
        have := ih (n / 10) (by omega) l e
        omega
theorem Gd.len {z : Pg.Gift} (h : Gd z) : (numL z.1.toNat).length ≤ 2 ∧ (numL z.2.1.toNat).length ≤ 2 ∧ (numL z.2.2.toNat).length ≤ 61 := by
  refine ⟨numL_len (by decide) ?_, numL_len (by decide) ?_, numL_len (by decide) ?_⟩
  · have := h.g0
    have := h.g1
    omega
  · have := h.t0
    have := h.t1
    omega
  · have h0 := h.d0
    have h1 := h.d1
    have e : ((10 : Int) ^ 61) = ((10 ^ 61 : Nat) : Int) := by decide +kernel
    rw [e] at h1
    omega
theorem Gd.wl_len {z : Pg.Gift} (h : Gd z) : (wl z).length ≤ 67 := by
  obtain ⟨a, b, c⟩ := h.len
  unfold wl ends
  simp only [List.length_append, List.length_cons, List.length_nil]
  omega
theorem wl_free (z : Pg.Gift) : (32 : Nat) ∉ wl z := by
  unfold wl ends
  intro h
  simp only [List.mem_append, List.mem_singleton] at h
  have f : ∀ n, (32 : Nat) ∉ numL n := fun n => numL_free (.inl (by decide))
  rcases h with (h | h | h) | h | h
  · exact f _ h
  · cases h
  · exact f _ h
  · cases h
  · exact f _ h
theorem ends_free (z : Pg.Gift) : (58 : Nat) ∉ ends z := by
  unfold ends
  intro h
  simp only [List.mem_append, List.mem_singleton] at h
  have f : ∀ n, (58 : Nat) ∉ numL n := fun n => numL_free (.inr (by decide))
  rcases h with h | h | h
  · exact f _ h
  · cases h
  · exact f _ h
theorem part1 (z : Pg.Gift) : Txt.partition (S (wl z)) (S [58]) = (S (ends z), S [58], S (numL z.2.2.toNat)) := partition_some (List.cons_ne_nil _ _) (par_head _ (ends_free z))
theorem part2 (z : Pg.Gift) : Txt.partition (S (ends z)) (S [62]) = (S (numL z.1.toNat), S [62], S (numL z.2.1.toNat)) := partition_some (List.cons_ne_nil _ _) (par_head (c := 62) (sep := []) _ (numL_free (.inr (by decide))))
theorem wl_ne (z : Pg.Gift) : wl z ≠ [] := by
  unfold wl
  simp
theorem join_ne {Gs : List Pg.Gift} (h : Gs ≠ []) : joinL [32] (Gs.map wl) ≠ [] := by
  cases Gs with
  | nil => exact absurd rfl h
  | cons z r =>
    cases r with
    | nil => exact wl_ne z
    | cons y r =>
      show wl z ++ _ ≠ []
      intro e
      exact wl_ne z (List.append_eq_nil_iff.mp e).1
theorem split_join {Gs : List Pg.Gift} (h : Gs ≠ []) : spl [32] 0 [] (joinL [32] (Gs.map wl)) = Gs.map wl := SX.spl_join (by
  intro e
  exact h (List.map_eq_nil_iff.mp e)) (fun p hp => by
  obtain ⟨z, _, rfl⟩ := List.mem_map.mp hp
  exact wl_free z)
theorem sum_len : ∀ {Gs : List Pg.Gift}, (∀ z ∈ Gs, Gd z) → ((Gs.map wl).map (·.length)).sum ≤ 67 * Gs.length
  | [], _ => Nat.zero_le _
  | z :: r, h => by
    have h1 := (h z List.mem_cons_self).wl_len
    have h2 := sum_len fun y hy => h y (List.mem_cons_of_mem _ hy)
    rw [List.map_cons, List.map_cons, List.sum_cons, List.length_cons]
    omega
theorem join_len : ∀ {Gs : List Pg.Gift}, (∀ z ∈ Gs, Gd z) → (joinL [32] (Gs.map wl)).length ≤ 68 * Gs.length
  | [], _ => Nat.zero_le _
  | [z], h => by
    have h1 := (h z List.mem_cons_self).wl_len
    show (wl z).length ≤ 68
    omega
  | z :: y :: r, h => by
    have h1 := (h z List.mem_cons_self).wl_len
    have h2 := join_len (Gs := y :: r) fun u hu => h u (List.mem_cons_of_mem _ hu)
    show (wl z ++ ([32] ++ joinL [32] ((y :: r).map wl))).length ≤ _
    rw [List.length_append, List.length_append, List.length_cons (a := z)]
    show (wl z).length + (1 + _) ≤ _
    omega
theorem int_numL (n : Nat) (h : (numL n).length ≤ 4300) : intText? (S (numL n)) = some (n : Int) := by
  have e := int_num (n := n) h
  rw [num_S] at e
  exact e
end Pn

set_option Elab.async false
set_option linter.all false
set_option maxRecDepth 100000
set_option maxHeartbeats 4000000
namespace K09
open PySem PySem.Spec PyProof.Rows L2 Evl Px
structure TxtF (mg : Str → Option Value) (tk : Tok) : Prop where
  g_FIGURES : mg "FIGURES" = some (.str (SX.S Pn.fig) tk)
def topS (i : Nat) : Stmt := PySem.Challenge.pw_pursewise_k09_notes_shown_read.main.body.getD i (.Pass ⟨0, 0, 0, 0⟩)
abbrev s_Lwhole : Stmt := topS 10
abbrev n_Lwhole : List Str := ["_law_found"]
theorem sc_Lwhole : FnScope n_Lwhole ["_law_found"] (defScope s_Lwhole) := ⟨rfl, rfl, rfl, by decide +kernel, rfl, by decide +kernel, by decide +kernel⟩
abbrev s_Lalike : Stmt := topS 13
abbrev n_Lalike : List Str := ["_law_found", "_law_due", "_law_k", "_law_j"]
theorem sc_Lalike : FnScope n_Lalike ["_law_found", "_law_due"] (defScope s_Lalike) := ⟨rfl, rfl, rfl, by decide +kernel, rfl, by decide +kernel, by decide +kernel⟩
abbrev s_Lgift : Stmt := topS 11
abbrev n_Lgift : List Str := ["_law_cell", "_law_mixed", "_law_giver", "_law_taker", "_law_most", "_law_amount"]
theorem sc_Lgift : FnScope n_Lgift ["_law_cell"] (defScope s_Lgift) := ⟨rfl, rfl, rfl, by decide +kernel, rfl, by decide +kernel, by decide +kernel⟩
abbrev s_Lwords : Stmt := topS 12
abbrev n_Lwords : List Str := ["_law_gifts", "_law_giver", "_law_taker", "_law_amount"]
theorem sc_Lwords : FnScope n_Lwords ["_law_gifts"] (defScope s_Lwords) := ⟨rfl, rfl, rfl, by decide +kernel, rfl, by decide +kernel, by decide +kernel⟩
abbrev s_number_of : Stmt := topS 6
abbrev n_number_of : List Str := ["figures", "most", "sign"]
theorem sc_number_of : FnScope n_number_of ["figures", "most"] (defScope s_number_of) := ⟨rfl, rfl, rfl, by decide +kernel, rfl, by decide +kernel, by decide +kernel⟩
abbrev s_gift_of : Stmt := topS 7
abbrev n_gift_of : List Str := ["word", "ends", "colon", "tail", "head", "arrow", "behind", "giver", "taker", "amount"]
theorem sc_gift_of : FnScope n_gift_of ["word"] (defScope s_gift_of) := ⟨rfl, rfl, rfl, by decide +kernel, rfl, by decide +kernel, by decide +kernel⟩
abbrev s_read : Stmt := topS 8
abbrev n_read : List Str := ["text", "word"]
theorem sc_read : FnScope n_read ["text"] (defScope s_read) := ⟨rfl, rfl, rfl, by decide +kernel, rfl, by decide +kernel, by decide +kernel⟩
abbrev s_shown : Stmt := topS 5
abbrev n_shown : List Str := ["gifts", "words", "giver", "taker", "amount"]
theorem sc_shown : FnScope n_shown ["gifts"] (defScope s_shown) := ⟨rfl, rfl, rfl, by decide +kernel, rfl, by decide +kernel, by decide +kernel⟩
abbrev s_law : Stmt := topS 14
abbrev n_law : List Str := ["_law_script", "_law_gifts", "_law_due", "_law_handed", "_law_told", "_law_found", "_law_last", "_law_again", "_law_cell"]
theorem sc_law : FnScope n_law ["_law_script"] (defScope s_law) := ⟨rfl, rfl, rfl, by decide +kernel, rfl, by decide +kernel, by decide +kernel⟩
/-- built-in names that are still so -/
structure Bl (mg : Str → Option Value) : Prop where
  bool_ : mg "bool" = none
  int_ : mg "int" = none
  isinstance_ : mg "isinstance" = none
  len_ : mg "len" = none
  list_ : mg "list" = none
  range_ : mg "range" = none
  str_ : mg "str" = none
  tuple_ : mg "tuple" = none
/-! ### the script's cells -/
def cellAt (ns : List Int) (k : Int) : Int := if k < (ns.length : Int) then ns.getD k.toNat 0 else 0
def AllBd (n : Nat) (ns : List Int) : Prop := ∀ z ∈ ns, Bd n z
theorem bd0 (n : Nat) : Bd n 0 := Nat.pow_pos (by decide)
theorem AllBd.get {n : Nat} {ns : List Int} (h : AllBd n ns) (k : Nat) : Bd n (ns.getD k 0) := by
  rw [List.getD_eq_getElem?_getD]
  cases e : ns[k]? with
  | none => exact bd0 n
  | some z => exact h z (List.mem_of_getElem? e)
theorem AllBd.mono {n m : Nat} {ns : List Int} (h : AllBd n ns) (k : n ≤ m) : AllBd m ns := fun z hz => (h z hz).mono k
theorem AllBd.snoc {n : Nat} {ns : List Int} {z : Int} (h : AllBd n ns) (hz : Bd n z) : AllBd n (ns ++ [z]) := fun y hy => by
  rcases List.mem_append.mp hy with h1 | h1
  · exact h y h1
  · rw [List.mem_singleton.mp h1]
    exact hz
theorem AllBd.cell {n : Nat} {ns : List Int} (h : AllBd n ns) (k : Int) : Bd n (cellAt ns k) := by
  unfold cellAt
  split
  · exact h.get _
  · exact bd0 n
theorem at_getD {ns : List Int} {k : Int} (h0 : 0 ≤ k) (h : k < (ns.length : Int)) : atI (ns.map V.int) k = some (.int (ns.getD k.toNat 0)) := by
  have hk : k.toNat < ns.length := by omega
  have e : k = (k.toNat : Int) := by omega
  rw [e]
  exact Pm.atI_map (by rw [List.getD_eq_getElem?_getD, Int.toNat_natCast, List.getElem?_eq_getElem hk]; rfl)
/-- the script's k-th cell, or nought -/
def spLcell_at (K : PySem.W.Frag) : Sp := fun vs H Q _ => ∃ (a : Addr) (ns : List Int) (k : Int), vs = [.ref a, .int k] ∧ SqL K H a (ns.map V.int) ∧ 0 ≤ k ∧ KQ Q (.int (cellAt ns k)) H
theorem k_Lcell_at {K : PySem.W.Frag} {H : Hp} {P : V → Hp → Prop} {a : Addr} {ns : List Int} {k : Int} (h : SqL K H a (ns.map V.int)) (h0 : 0 ≤ k) (hp : P (.int (cellAt ns k)) H) : SpK (spLcell_at K) [.ref a, .int k] H P := fun _ H1 e Q q =>
  ⟨a, ns, k, rfl, ex_l e h, h0, fun H2 e2 => q _ _ ⟨H, e.trans e2, hp⟩⟩
theorem ixN_at {n : Nat} {k : Int} (h0 : 0 ≤ k) (h : k < (n : Int)) : ixN n k = some k.toNat := by
  unfold ixN
  rw [if_pos h0, if_pos h]
theorem map_set_int (ns : List Int) (i : Nat) (z : Int) : (ns.map V.int).set i (V.int z) = (ns.set i z).map V.int := List.map_set.symm
theorem refs_at {gs : List Addr} {i : Nat} {x : V} (h : (gs.map V.ref)[i]? = some x) : ∃ g, gs[i]? = some g ∧ x = V.ref g := by
  rw [List.getElem?_map] at h
  cases e : gs[i]? with
  | none => rw [e] at h; cases h
  | some z => rw [e] at h; exact ⟨z, rfl, (Option.some.inj h).symm⟩
theorem List.drop_eq_getElem_cons_of {α : Type} {l : List α} {i : Nat} {z : α} (h : l[i]? = some z) : l.drop i = z :: l.drop (i + 1) := by
  obtain ⟨h1, rfl⟩ := List.getElem?_eq_some_iff.mp h
  exact List.drop_eq_getElem_cons h1

/-- sizes -/
local macro_rules | `(tactic| walk_at "bd") => `(tactic| first
  | assumption
  | ((with_reducible refine Bd.add (n := ?n1) (m := ?m1) ?h1 ?h2); (case h1 => walk_at "bd"); (case h2 => walk_at "bd"))
  | ((with_reducible refine Bd.sub (n := ?n1) (m := ?m1) ?h1 ?h2); (case h1 => walk_at "bd"); (case h2 => walk_at "bd"))
  | ((with_reducible refine Bd.mul (n := ?n1) (m := ?m1) ?h1 ?h2); (case h1 => walk_at "bd"); (case h2 => walk_at "bd"))
  | ((with_reducible refine Bd.mod ?h1 ?h2); (case h1 => walk_at "bd"); (case h2 => first | decide | omega))
  | ((with_reducible refine Bd.div ?h1); (case h1 => walk_at "bd"))
  | exact AllBd.get (by assumption) _
  | exact AllBd.cell (by assumption) _
  | exact bd_lit _)
local macro_rules | `(tactic| walk_at "side") => `(tactic| first
  | ((with_reducible refine Bd.mulX (n := ?bn) (m := ?bm) ?b1 ?b2 ?sl); (case b1 => walk_at "bd"); (case b2 => walk_at "bd"); (case sl => decide +kernel))
  | (show (_ : Int) < _; decide)
  | (show (_ : Int) < _ ∧ _; decide)
  | (show (_ : Int) ≤ _ ∧ _; decide)
  | (show (_ : Int) < _; omega)
  | (show (_ : Int) < _ ∧ _; omega))
/-- one step of the calculus, by the head -/
local macro_rules | `(tactic| walk_at "k") => `(tactic| first
  | ((with_reducible refine k_var (v := ?kw) ?kv ?_); (case kv => exact rfl))
  | with_reducible refine k_c ?_
  | with_reducible refine k_op ?_
  | with_reducible refine k_cb ?_
  | with_reducible refine k_cons ?_
  | with_reducible refine k_nil ?_
  | with_reducible refine k_call ?_
  | with_reducible refine r_I0 ?_
  | ((with_reducible refine r_I' ?_ ?rc); (case rc => walk_at "side"))
  | with_reducible refine kt_test ?_
  | with_reducible refine kt_B ?_
  | with_reducible refine kt_or ?_
  | with_reducible refine kt_and ?_
  | with_reducible refine kt_not ?_
  | with_reducible refine k_tup ?_
  | with_reducible refine k_lst ?_
  | with_reducible refine k_ckw ?_
  | with_reducible refine k_bm ?_
  | with_reducible refine k_bm0 ?_
  | with_reducible refine k_sl ?_
  | with_reducible refine k_part ?_
  | with_reducible refine k_nopart ?_
  | with_reducible refine k_un ?_
  | with_reducible refine k_chain ?_
  | with_reducible refine k_andV ?_
  | with_reducible refine k_orV ?_
  | with_reducible refine k_notV ?_
  | with_reducible refine r_neg ?_
  | with_reducible refine r_eqI ?_
  | with_reducible refine r_neI ?_
  | with_reducible refine ⟨_, rfl, ?_⟩)
/-- a statement -/
local macro_rules | `(tactic| walk_at "s") => `(tactic| first
  | with_reducible refine gs_asg ?_
  | with_reducible refine gs_drop ?_
  | with_reducible refine gs_when ?_
  | with_reducible refine gs_if ?_
  | with_reducible refine gs_par ?_
  | with_reducible refine gs_set ?_
  | with_reducible refine g2_asg ?_
  | with_reducible refine g2_drop ?_
  | with_reducible refine g2_next ?_
  | with_reducible refine g2_par ?_
  | with_reducible refine g2_set ?_
  | with_reducible refine g1_asg ?_
  | with_reducible refine g1_drop ?_
  | with_reducible refine g1_ret ?_
  | with_reducible refine g1_if ?_
  | with_reducible refine g1_par ?_
  | with_reducible refine g1_set ?_)
local macro_rules | `(tactic| walk_at "ks") => `(tactic| repeat walk_at "k")

/-- a gift's tuple at an address -/
def TupG (K : PySem.W.Frag) (H : Hp) (a : Addr) (z : Pg.Gift) : Prop := SqT K H a [.int z.1, .int z.2.1, .int z.2.2]
def spfits (K : PySem.W.Frag) : Sp := fun vs H Q _ => ∃ (a b : Addr) (ns : List Int) (z : Pg.Gift), vs = [.ref a, .ref b] ∧ SqL K H a (ns.map V.int) ∧ TupG K H b z ∧ KQ Q (.bl (Pg.fitsB ns z.1 z.2.1 z.2.2)) H
theorem k_fits {K : PySem.W.Frag} {H : Hp} {P : V → Hp → Prop} {a b : Addr} {ns : List Int} {z : Pg.Gift} (h : SqL K H a (ns.map V.int)) (hz : TupG K H b z) (hp : P (.bl (Pg.fitsB ns z.1 z.2.1 z.2.2)) H) : SpK (spfits K) [.ref a, .ref b] H P := fun _ H1 e Q q =>
  ⟨a, b, ns, z, rfl, ex_l e h, ex_t e hz, fun H2 e2 => q _ _ ⟨H, e.trans e2, hp⟩⟩
def spdone (K : PySem.W.Frag) (C : Addr) : Sp := fun vs H Q E => ∃ (a b : Addr) (ns : List Int) (z : Pg.Gift), vs = [.ref a, .ref b] ∧ SqL K H a (ns.map V.int) ∧ TupG K H b z ∧
  (¬ Pg.Fits ns z.1 z.2.1 z.2.2 → KE E (.ref C) none H) ∧ (Pg.Fits ns z.1 z.2.1 z.2.2 → ∀ p, H p = none → KQ Q (.ref p) (upd H p (.lst ((Pg.done ns z.1 z.2.1 z.2.2).map V.int))))
theorem k_done {K : PySem.W.Frag} {C : Addr} {E : XK} {H : Hp} {P : V → Hp → Prop} {a b : Addr} {ns : List Int} {z : Pg.Gift} (h : SqL K H a (ns.map V.int)) (hz : TupG K H b z) (he : ¬ Pg.Fits ns z.1 z.2.1 z.2.2 → KE E (.ref C) none H)
    (hp : Pg.Fits ns z.1 z.2.1 z.2.2 → ∀ p, H p = none → P (.ref p) (upd H p (.lst ((Pg.done ns z.1 z.2.1 z.2.2).map V.int)))) : Kc (fun H Q => spdone K C [.ref a, .ref b] H Q E) H P := fun H1 e Q q =>
  ⟨a, b, ns, z, rfl, ex_l e h, ex_t e hz, fun n => (he n).up e, fun y p np H2 e2 => q _ _ ⟨_, (Ex.updm e).trans e2, hp y p (fresh_back e np)⟩⟩
/-- a list of gifts -/
structure GfL (K : PySem.W.Frag) (H : Hp) (a : Addr) (gs : List Addr) (Gs : List Pg.Gift) : Prop where
  lst : SqL K H a (gs.map V.ref)
  len : gs.length = Gs.length
  tup : ∀ (i : Nat) g z, gs[i]? = some g → Gs[i]? = some z → TupG K H g z
theorem GfL.up {K : PySem.W.Frag} {H H' : Hp} {a : Addr} {gs : List Addr} {Gs : List Pg.Gift} (h : GfL K H a gs Gs) (e : Ex H H') : GfL K H' a gs Gs := ⟨ex_l e h.lst, h.len, fun i g z x y => ex_t e (h.tup i g z x y)⟩
def spwalked (K : PySem.W.Frag) (C : Addr) : Sp := fun vs H Q E => ∃ (a b : Addr) (ns : List Int) (gs : List Addr) (Gs : List Pg.Gift), vs = [.ref a, .ref b] ∧ SqL K H a (ns.map V.int) ∧ GfL K H b gs Gs ∧
  (Pg.walk ns Gs = none → KE E (.ref C) none H) ∧ (∀ ms, Pg.walk ns Gs = some ms → ∀ p, H p = none → KQ Q (.ref p) (upd H p (.lst (ms.map V.int))))
theorem k_walked {K : PySem.W.Frag} {C : Addr} {E : XK} {H : Hp} {P : V → Hp → Prop} {a b : Addr} {ns : List Int} {gs : List Addr} {Gs : List Pg.Gift} (h : SqL K H a (ns.map V.int)) (hz : GfL K H b gs Gs) (he : Pg.walk ns Gs = none → KE E (.ref C) none H)
    (hp : ∀ ms, Pg.walk ns Gs = some ms → ∀ p, H p = none → P (.ref p) (upd H p (.lst (ms.map V.int)))) : Kc (fun H Q => spwalked K C [.ref a, .ref b] H Q E) H P := fun H1 e Q q =>
  ⟨a, b, ns, gs, Gs, rfl, ex_l e h, hz.up e, fun n => (he n).up e, fun ms y p np H2 e2 => q _ _ ⟨_, (Ex.updm e).trans e2, hp ms y p (fresh_back e np)⟩⟩

theorem snoc_at {α : Type} {l : List α} {x : α} {i : Nat} {y : α} (h : (l ++ [x])[i]? = some y) : (i < l.length ∧ l[i]? = some y) ∨ (i = l.length ∧ y = x) := by
  by_cases c : i < l.length
  · rw [List.getElem?_append_left c] at h
    exact .inl ⟨c, h⟩
  · have hi : i = l.length := by
      have h1 := (List.getElem?_eq_some_iff.mp h).1
      rw [List.length_append] at h1
      simp at h1
      omega
    subst hi
    rw [List.getElem?_append_right (Nat.le_refl _), Nat.sub_self] at h
    exact .inr ⟨rfl, (Option.some.inj h).symm⟩
theorem dpa_gifts {K : PySem.W.Frag} {H : Hp} : ∀ {gs : List Addr} {Gs : List Pg.Gift}, gs.length = Gs.length → (∀ (i : Nat) g z, gs[i]? = some g → Gs[i]? = some z → TupG K H g z) → DpAll K H (gs.map V.ref) (Gs.map fun z => PyData.tuple [.int z.1, .int z.2.1, .int z.2.2])
  | [], [], _, _ => .nil
  | g :: gs, z :: Gs, h, k => .cons (.tup (k 0 g z rfl rfl) (.cons (.int _) (.cons (.int _) (.cons (.int _) .nil)))) (dpa_gifts (by simpa using h) fun i x y hx hy => k (i + 1) x y hx hy)
  | [], _ :: _, h, _ => by cases h
  | _ :: _, [], h, _ => by cases h
theorem dp_gifts {K : PySem.W.Frag} {H : Hp} {a : Addr} {gs : List Addr} {Gs : List Pg.Gift} (h : GfL K H a gs Gs) : Dp K H (.ref a) (.list (Gs.map fun z => PyData.tuple [.int z.1, .int z.2.1, .int z.2.2])) := .lst h.lst (dpa_gifts h.len h.tup)
theorem lay_gifts : ∀ Gs : List Pg.Gift, PyData.canLayAll0 (Gs.map fun z => PyData.tuple [.int z.1, .int z.2.1, .int z.2.2]) = true
  | [] => rfl
  | z :: Gs => by
    show (PyData.canLay0 (.tuple [.int z.1, .int z.2.1, .int z.2.2]) && PyData.canLayAll0 (Gs.map fun z => PyData.tuple [.int z.1, .int z.2.1, .int z.2.2])) = true
    rw [lay_gifts Gs]
    rfl
theorem dep_gifts : ∀ Gs : List Pg.Gift, PyData.depthAll (Gs.map fun z => PyData.tuple [.int z.1, .int z.2.1, .int z.2.2]) ≤ 1
  | [] => Nat.zero_le _
  | z :: Gs => by
    show max (PyData.depth (.tuple [.int z.1, .int z.2.1, .int z.2.2])) (PyData.depthAll (Gs.map fun z => PyData.tuple [.int z.1, .int z.2.1, .int z.2.2])) ≤ 1
    exact Nat.max_le.mpr ⟨(by decide : (1 : Nat) ≤ 1), dep_gifts Gs⟩
theorem sh_gifts (Gs : List Pg.Gift) : SeqAt.shaped (.list (Gs.map fun z => PyData.tuple [.int z.1, .int z.2.1, .int z.2.2])) = true := by
  show (PyData.canLayAll0 (Gs.map fun z => PyData.tuple [.int z.1, .int z.2.1, .int z.2.2]) && decide (PyData.depthAll (Gs.map fun z => PyData.tuple [.int z.1, .int z.2.1, .int z.2.2]) + 1 ≤ 64)) = true
  have h := dep_gifts Gs
  rw [lay_gifts, decide_eq_true (by omega)]
  rfl

def spshown (K : PySem.W.Frag) : Sp := fun vs H Q _ => ∃ (a : Addr) (gs : List Addr) (Gs : List Pg.Gift), vs = [.ref a] ∧ GfL K H a gs Gs ∧ (∀ z ∈ Gs, Pn.Gd z) ∧ Gs.length ≤ 100 ∧ KQ Q (.str (SX.S (TL.joinL [32] (Gs.map Pn.wl)))) H
theorem k_shown {K : PySem.W.Frag} {H : Hp} {P : V → Hp → Prop} {a : Addr} {gs : List Addr} {Gs : List Pg.Gift} (h : GfL K H a gs Gs) (hg : ∀ z ∈ Gs, Pn.Gd z) (hl : Gs.length ≤ 100) (hp : P (.str (SX.S (TL.joinL [32] (Gs.map Pn.wl)))) H) : SpK (spshown K) [.ref a] H P := fun _ H1 e Q q =>
  ⟨a, gs, Gs, rfl, h.up e, hg, hl, fun H2 e2 => q _ _ ⟨_, e.trans e2, hp⟩⟩
def spnumber_of (K : PySem.W.Frag) : Sp := fun vs H Q _ => ∃ (n m : Nat), vs = [.str (SX.S (TL.numL n)), .int (m : Int)] ∧ (TL.numL n).length ≤ m ∧ m ≤ 61 ∧ KQ Q (.int (n : Int)) H
theorem k_number_of {K : PySem.W.Frag} {H : Hp} {P : V → Hp → Prop} {n m : Nat} (h : (TL.numL n).length ≤ m) (hm : m ≤ 61) (hp : P (.int (n : Int)) H) : SpK (spnumber_of K) [.str (SX.S (TL.numL n)), .int (m : Int)] H P := fun _ H1 e Q q =>
  ⟨n, m, rfl, h, hm, fun H2 e2 => q _ _ ⟨_, e.trans e2, hp⟩⟩
def spgift_of (K : PySem.W.Frag) : Sp := fun vs H Q _ => ∃ (z : Pg.Gift), vs = [.str (SX.S (Pn.wl z))] ∧ Pn.Gd z ∧ ∀ p H', Ex H H' → H p = none → H' p = some (.tup [.int z.1, .int z.2.1, .int z.2.2]) → KQ Q (.ref p) H'
theorem k_gift_of {K : PySem.W.Frag} {H : Hp} {P : V → Hp → Prop} {z : Pg.Gift} (h : Pn.Gd z) (hp : ∀ p H', Ex H H' → H p = none → H' p = some (.tup [.int z.1, .int z.2.1, .int z.2.2]) → P (.ref p) H') : SpK (spgift_of K) [.str (SX.S (Pn.wl z))] H P := fun _ H1 e Q q =>
  ⟨z, rfl, h, fun p H' e' np hh H2 e2 => q _ _ ⟨H', e2, hp p H' (e.trans e') (fresh_back e np) hh⟩⟩
/-- a list of gifts that is one's own -/
structure GfH (H : Hp) (a : Addr) (gs : List Addr) (Gs : List Pg.Gift) : Prop where
  lst : H a = some (.lst (gs.map V.ref))
  len : gs.length = Gs.length
  tup : ∀ (i : Nat) g z, gs[i]? = some g → Gs[i]? = some z → H g = some (.tup [.int z.1, .int z.2.1, .int z.2.2])
theorem GfH.up {H H' : Hp} {a : Addr} {gs : List Addr} {Gs : List Pg.Gift} (h : GfH H a gs Gs) (e : Ex H H') : GfH H' a gs Gs := ⟨e _ _ h.lst, h.len, fun i g z x y => e _ _ (h.tup i g z x y)⟩
theorem GfH.gfl {K : PySem.W.Frag} {H : Hp} {a : Addr} {gs : List Addr} {Gs : List Pg.Gift} (h : GfH H a gs Gs) : GfL K H a gs Gs := ⟨sq_of h.lst, h.len, fun i g z x y => st_of (h.tup i g z x y)⟩
theorem GfH.mut {H : Hp} {a h : Addr} {gs : List Addr} {Gs : List Pg.Gift} {ys zs : List V} (x : GfH H a gs Gs) (hh : H h = some (.lst ys)) (hn : a ≠ h) : GfH (upd H h (.lst zs)) a gs Gs := ⟨by rw [upd_ne hn]; exact x.lst, x.len, fun i g z h1 h2 => by
  have k := x.tup i g z h1 h2
  rw [upd_ne fun e => by subst e; rw [hh] at k; cases k]
  exact k⟩
theorem GfH.drop {H : Hp} {a s : Addr} {gs : List Addr} {Gs : List Pg.Gift} {k : Nat} (x : GfH H a gs Gs) (hs : H s = some (.lst ((gs.drop k).map V.ref))) : GfH H s (gs.drop k) (Gs.drop k) := ⟨hs, by rw [List.length_drop, List.length_drop, x.len], fun i g z h1 h2 => by
  rw [List.getElem?_drop] at h1 h2
  exact x.tup _ g z h1 h2⟩
theorem cut_last (xs : List V) : cutV xs (some (-1)) none = xs.drop (xs.length - 1) := by
  unfold cutV
  have e : HT.sIx xs.length 0 (some (-1)) = xs.length - 1 := by
    show (if (-1 : Int) < 0 then ((-1 : Int) + (xs.length : Int)).toNat else min (-1 : Int).toNat xs.length) = _
    rw [if_pos (by decide)]
    omega
  rw [e, HT.sIx_none]
  exact List.take_of_length_le (by rw [List.length_drop]; omega)
/-- one gift more, at q: the list is written anew at b -/
theorem GfH.snoc {H H' : Hp} {a b q : Addr} {gs : List Addr} {Gs : List Pg.Gift} {z : Pg.Gift} (h : GfH H a gs Gs) (hb : H' b = some (.lst ((gs ++ [q]).map V.ref))) (ht : ∀ g u, H g = some (.tup u) → H' g = some (.tup u)) (hq : H' q = some (.tup [.int z.1, .int z.2.1, .int z.2.2])) : GfH H' b (gs ++ [q]) (Gs ++ [z]) := by
  refine ⟨hb, by rw [List.length_append, List.length_append, h.len]; rfl, fun i g u hg hu => ?_⟩
  rcases snoc_at hg with ⟨h1, h2⟩ | ⟨h1, h2⟩
  · rw [List.getElem?_append_left (by rw [← h.len]; exact h1)] at hu
    exact ht _ _ (h.tup i g u h2 hu)
  · rw [List.getElem?_append_right (by rw [← h.len]; omega), h1, h.len, Nat.sub_self] at hu
    have e1 : z = u := Option.some.inj hu
    subst e1 h2
    exact hq
def spread (K : PySem.W.Frag) : Sp := fun vs H Q _ => ∃ (Gs : List Pg.Gift), vs = [.str (SX.S (TL.joinL [32] (Gs.map Pn.wl)))] ∧ (∀ z ∈ Gs, Pn.Gd z) ∧ Gs.length ≤ 100 ∧ ∀ p fs H', Ex H H' → H p = none → GfH H' p fs Gs → KQ Q (.ref p) H'
theorem k_read {K : PySem.W.Frag} {H : Hp} {P : V → Hp → Prop} {Gs : List Pg.Gift} (hg : ∀ z ∈ Gs, Pn.Gd z) (hl : Gs.length ≤ 100) (hp : ∀ p fs H', Ex H H' → H p = none → GfH H' p fs Gs → P (.ref p) H') : SpK (spread K) [.str (SX.S (TL.joinL [32] (Gs.map Pn.wl)))] H P := fun _ H1 e Q q =>
  ⟨Gs, rfl, hg, hl, fun p fs H' e' np hh H2 e2 => q _ _ ⟨H', e2, hp p fs H' (e.trans e') (fresh_back e np) hh⟩⟩
def spLwhole (K : PySem.W.Frag) : Sp := fun vs H Q _ => ∃ (i : Int), vs = [.int i] ∧ KQ Q (.bl true) H
theorem k_Lwhole {K : PySem.W.Frag} {H : Hp} {P : V → Hp → Prop} {i : Int} (hp : P (.bl true) H) : SpK (spLwhole K) [.int i] H P := fun _ H1 e Q q => ⟨i, rfl, fun H2 e2 => q _ _ ⟨_, e.trans e2, hp⟩⟩
def spLgift (K : PySem.W.Frag) : Sp := fun vs H Q _ => ∃ (c : Int), vs = [.int c] ∧ Bd 1048576 c ∧ ∀ z p H', Pn.Gd z → Ex H H' → H p = none → H' p = some (.tup [.int z.1, .int z.2.1, .int z.2.2]) → KQ Q (.ref p) H'
theorem k_Lgift {K : PySem.W.Frag} {H : Hp} {P : V → Hp → Prop} {c : Int} (hc : Bd 1048576 c) (hp : ∀ z p H', Pn.Gd z → Ex H H' → H p = none → H' p = some (.tup [.int z.1, .int z.2.1, .int z.2.2]) → P (.ref p) H') : SpK (spLgift K) [.int c] H P := fun _ H1 e Q q =>
  ⟨c, rfl, hc, fun z p H' hg e' np hh H2 e2 => q _ _ ⟨H', e2, hp z p H' hg (e.trans e') (fresh_back e np) hh⟩⟩
def spLwords (K : PySem.W.Frag) : Sp := fun vs H Q _ => ∃ (a : Addr) (gs : List Addr) (Gs : List Pg.Gift), vs = [.ref a] ∧ GfL K H a gs Gs ∧ (∀ z ∈ Gs, Pn.Gd z) ∧ Gs.length ≤ 100 ∧ ∀ p, H p = none → KQ Q (.ref p) (upd H p (.lst (((Gs.map Pn.wl).map SX.S).map V.str)))
theorem k_Lwords {K : PySem.W.Frag} {H : Hp} {P : V → Hp → Prop} {a : Addr} {gs : List Addr} {Gs : List Pg.Gift} (h : GfL K H a gs Gs) (hg : ∀ z ∈ Gs, Pn.Gd z) (hl : Gs.length ≤ 100) (hp : ∀ p, H p = none → P (.ref p) (upd H p (.lst (((Gs.map Pn.wl).map SX.S).map V.str)))) : SpK (spLwords K) [.ref a] H P := fun _ H1 e Q q =>
  ⟨a, gs, Gs, rfl, h.up e, hg, hl, fun p np H2 e2 => q _ _ ⟨_, (Ex.updm e).trans e2, hp p (fresh_back e np)⟩⟩
def spLalike (K : PySem.W.Frag) : Sp := fun vs H Q _ => ∃ (a b : Addr) (fs gs : List Addr) (Gs : List Pg.Gift), vs = [.ref a, .ref b] ∧ GfH H a fs Gs ∧ GfL K H b gs Gs ∧ Gs.length ≤ 200 ∧ KQ Q (.bl true) H
theorem k_Lalike {K : PySem.W.Frag} {H : Hp} {P : V → Hp → Prop} {a b : Addr} {fs gs : List Addr} {Gs : List Pg.Gift} (h1 : GfH H a fs Gs) (h2 : GfL K H b gs Gs) (hl : Gs.length ≤ 200) (hp : P (.bl true) H) : SpK (spLalike K) [.ref a, .ref b] H P := fun _ H1 e Q q =>
  ⟨a, b, fs, gs, Gs, rfl, h1.up e, h2.up e, hl, fun H2 e2 => q _ _ ⟨_, e.trans e2, hp⟩⟩
def spLaw (K : PySem.W.Frag) : Sp := fun vs H Q _ => ∃ (a : Addr) (ns : List Int), vs = [.ref a] ∧ SqL K H a (ns.map V.int) ∧ ns.length ≤ 63 ∧ (∀ z ∈ ns, Builtin.Int.intBits z ≤ 1048576) ∧ ∀ H', Q (.bl true) H'

section
variable {P : Program} {w : World} {K : PySem.W.Frag} {mg : Str → Option Value} {base : Heap}
theorem ok_number_of {tk : Tok} (T : TxtF mg tk) {f : Addr} {fd : FuncData} (F : Fun K "number_of" "number_of" s_number_of f fd) (B : Bl mg) : FnOk P w K mg base CX0 1 f fd ["figures", "most"] (spnumber_of K) := by
  refine F.ok sc_number_of (fun vs H Q E h => ?_) (fun cdv A outer s H vs Q E hr h => ?_)
  · obtain ⟨n, m, rfl, _⟩ := h
    rfl
  · obtain ⟨n, m, rfl, hn, hm, q⟩ := h
    have n1 : 1 ≤ (TL.numL n).length := by
      have := TL.numL_ne n
      cases e : TL.numL n with
      | nil => exact absurd e this
      | cons x r => rw [List.length_cons]; omega
    refine ⟨_, (pss_cons (ps_if (pt_not (pt_chain op_le op_le pe_int (pe_callB call_len_str (by rfl) B.len_ boot_len (pa_cons (pv 0) pa_nil)) (pv 1))) (pss_one ps_never) pss_nil)
      (pss_cons (ps_for PassesOwn.never rfl (pi_str (pv 0)) (pg_name (i := 2) sc_number_of.nd rfl (Or.inl rfl)) (pss_one (ps_if (pt_cmpR op_notIn_sign (pv 2) (pe_glob (v := .str (SX.S Pn.fig)) rfl T.g_FIGURES ⟨_, rfl⟩) rfl) (pss_one ps_never) pss_nil)))
      (pss_cons (ps_if (PW.pt (pw_and (pt_cmpR op_eq (pe_ix ix_str (pv 0) pe_int (fun _ _ => rfl)) pe_str (nomark _)) (pw_and1 (pt_cmpR op_gt (pe_callB call_len_str (by rfl) B.len_ boot_len (pa_cons (pv 0) pa_nil)) pe_int (nomark _))))) (pss_one ps_never) pss_nil)
      (pss_one (ps_ret (pe_callTy call_int_str (by rfl) B.int_ boot_int (pa_cons (pv 0) pa_nil))))))), Go.here ?_⟩
    walk_at "s"; walk_at "ks"
    refine c_lenS (by omega) ?_
    walk_at "ks"
    rw [decide_eq_true (by omega)]
    refine ⟨fun _ => ?_, fun hb => Bool.noConfusion hb⟩
    walk_at "ks"
    rw [decide_eq_true (by omega)]
    refine ⟨fun hb => Bool.noConfusion hb, fun _ => ?_⟩
    refine gs_forS ?_
    walk_at "ks"
    refine ⟨TL.numL n, fun i σ' H' => ∃ v : Option V, σ' = [some (.str (SX.S (TL.numL n))), some (.int (m : Int)), v] ∧ H = H', rfl, ⟨none, rfl, rfl⟩, ?_, ?_⟩
    · rintro i c σ' H' hc ⟨v, rfl, rfl⟩
      walk_at "s"; walk_at "ks"
      refine r_notInS ?_
      rw [decide_eq_true (Pn.fig_of (List.mem_of_getElem? hc))]
      walk_at "ks"
      refine ⟨fun hb => Bool.noConfusion hb, fun _ => ?_⟩
      exact g1_next fun H1 e1 => ⟨_, e1, _, rfl, rfl⟩
    rintro σ' H' ⟨v, rfl, rfl⟩
    obtain ⟨c, r, ec⟩ : ∃ c r, TL.numL n = c :: r := by
      cases e : TL.numL n with
      | nil => exact absurd e (TL.numL_ne n)
      | cons x r => exact ⟨x, r, rfl⟩
    walk_at "s"; walk_at "ks"
    refine r_ixS (c := c) (by omega) (atI_nat (j := 0) (by rw [ec]; rfl)) ?_
    walk_at "ks"
    refine r_eqL lit_0 ?_
    walk_at "ks"
    refine ⟨fun hb => ?_, fun hb => ⟨fun h => Bool.noConfusion h, fun _ => ?_⟩⟩
    · have h1 := of_decide_eq_true hb
      have hc : c = 48 := (List.cons.inj h1).1
      have hn0 : n = 0 := Pn.head0 n r (by rw [ec, hc])
      walk_at "ks"
      refine c_lenS (by omega) ?_
      walk_at "ks"
      have hl1 : (TL.numL n).length = 1 := by
        rw [hn0, TL.numL_lt (by decide)]
        rfl
      rw [hl1]
      refine ⟨fun hb => Bool.noConfusion hb, fun _ => ?_⟩
      walk_at "s"; walk_at "ks"
      exact c_intS (Pn.int_numL n (by omega)) (by omega) q
    · walk_at "s"; walk_at "ks"
      exact c_intS (Pn.int_numL n (by omega)) (by omega) q
theorem ok_shown {tk : Tok} (T : TxtF mg tk) {f : Addr} {fd : FuncData} (F : Fun K "shown" "shown" s_shown f fd) (B : Bl mg) : FnOk P w K mg base CX0 1 f fd ["gifts"] (spshown K) := by
  refine F.ok sc_shown (fun vs H Q E h => ?_) (fun cdv A outer s H vs Q E hr h => ?_)
  · obtain ⟨a, gs, Gs, rfl, _⟩ := h
    rfl
  · obtain ⟨a, gs, Gs, rfl, hG, hgd, hl, q⟩ := h
    refine ⟨_, (pss_cons (ps_set (i := 1) sc_shown.nd rfl (Or.inl rfl) (pe_lst pa_nil))
      (pss_cons (ps_for PassesOwn.never rfl (piL (K := K) (pv 0)) (pgT (K := K) (n := 3) rfl (pgs_cons (pg_name (i := 2) sc_shown.nd rfl (Or.inl rfl)) (pgs_cons (pg_name (i := 3) sc_shown.nd rfl (Or.inl rfl)) (pgs_cons (pg_name (i := 4) sc_shown.nd rfl (Or.inl rfl)) pgs_nil)))) (pss_one (ps_expr (peBm (K := K) PySem.F.plainAttrs_list PySem.F.slot_list_append PySem.F.type_list_append mt_append (pv 1) (pa_cons (pe_op op_add_str (pe_op op_add_str (pe_op op_add_str (pe_op op_add_str (pe_callTy call_str_int (by rfl) B.str_ boot_str (pa_cons (pv 2) pa_nil)) pe_str) (pe_callTy call_str_int (by rfl) B.str_ boot_str (pa_cons (pv 3) pa_nil))) pe_str) (pe_callTy call_str_int (by rfl) B.str_ boot_str (pa_cons (pv 4) pa_nil))) pa_nil)))))
      (pss_one (ps_ret (pe_joinK (K := K) pe_str (pv 1)))))), Go.here ?_⟩
    walk_at "s"; walk_at "ks"
    refine ⟨(by show 0 ≤ 100000; decide), fun p np => ?_⟩
    refine gs_forG ?_
    walk_at "ks"
    refine ⟨a, gs.map V.ref, fun i σ' H' => ∃ v2 v3 v4 : Option V, σ' = [some (.ref a), some (.ref p), v2, v3, v4] ∧ upd H p (.lst ((((Gs.take i).map Pn.wl).map SX.S).map V.str)) = H', rfl, (hG.up (Ex.new np)).lst, ⟨none, none, none, rfl, rfl⟩, ?_, ?_, ?_⟩
    · rintro i σ' H' _ ⟨_, _, _, _, rfl⟩
      exact (hG.up (Ex.new np)).lst
    · rintro i x σ' H' hx ⟨v2, v3, v4, rfl, rfl⟩
      obtain ⟨g, hg, rfl⟩ := refs_at hx
      have hil : i < Gs.length := by
        have := (List.getElem?_eq_some_iff.mp hg).1
        rw [hG.len] at this
        exact this
      obtain ⟨z, hz⟩ : ∃ z, Gs[i]? = some z := ⟨_, List.getElem?_eq_getElem hil⟩
      have gd := hgd z (List.mem_of_getElem? hz)
      obtain ⟨l1, l2, l3⟩ := gd.len
      have g0 := gd.g0
      have g1 := gd.g1
      have t0 := gd.t0
      have t1 := gd.t1
      have d0 := gd.d0
      have d1 := gd.d1
      have b3 : Bd 1900 z.2.2 := Bd.mono (n := 203) (Bd.le (j := 10 ^ 61) (by
        have e : ((10 : Int) ^ 61) = ((10 ^ 61 : Nat) : Int) := by decide +kernel
        rw [e] at d1 ⊢
        omega) (by unfold Bd; decide +kernel)) (by decide)
      have b1 : Bd 1900 z.1 := Bd.mono (n := 7) (by unfold Bd; omega) (by decide)
      have b2 : Bd 1900 z.2.1 := Bd.mono (n := 7) (by unfold Bd; omega) (by decide)
      refine gk_tup3 ((hG.up (Ex.new np)).tup i g z hg hz) (gk_name (gk_name (gk_name ?_)))
      walk_at "s"; walk_at "ks"
      refine ⟨tyl (sq_of upd_same), ?_⟩
      walk_at "ks"
      refine c_strI g0 b1 ?_
      walk_at "ks"
      refine r_addL lit_gt (by show _ + 1 ≤ _; omega) ?_
      walk_at "ks"
      refine c_strI t0 b2 ?_
      refine r_addS (by rw [List.length_append]; show _ + 1 + _ ≤ _; omega) ?_
      walk_at "ks"
      refine r_addL lit_col (by rw [List.length_append, List.length_append]; show _ + 1 + _ + 1 ≤ _; omega) ?_
      walk_at "ks"
      refine c_strI (by omega) b3 ?_
      refine r_addS (by rw [List.length_append, List.length_append, List.length_append]; show _ + 1 + _ + 1 + _ ≤ _; omega) ?_
      walk_at "ks"
      refine m_append upd_same (by rw [List.length_map, List.length_map, List.length_map, List.length_take]; omega) fun H1 e1 => ⟨_, e1, _, _, _, rfl, ?_⟩
      rw [upd_upd, Pm.take_more hz, List.map_append, List.map_append, List.map_append]
      have ew : Pn.wl z = TL.numL z.1.toNat ++ [62] ++ TL.numL z.2.1.toNat ++ [58] ++ TL.numL z.2.2.toNat := by
        unfold Pn.wl Pn.ends
        simp only [List.append_assoc]
      rw [← ew]
      rfl
    · rintro σ' H' ⟨v2, v3, v4, rfl, rfl⟩
      rw [List.length_map, hG.len, List.take_length]
      walk_at "s"; walk_at "ks"
      refine k_m1 ?_
      walk_at "ks"
      refine ⟨⟨_, rfl⟩, ?_⟩
      walk_at "ks"
      refine m_join (ys := Gs.map Pn.wl) lit_sp (sq_of upd_same) ?_ (q.up (Ex.new np))
      have h1 := Pn.sum_len hgd
      rw [List.length_map]
      show _ + _ * 1 ≤ _
      omega
theorem ok_gift_of {tk : Tok} (T : TxtF mg tk) {f : Addr} {fd : FuncData} (F : Fun K "gift_of" "gift_of" s_gift_of f fd) (B : Bl mg) {f_number_of : Addr} {fd_number_of : FuncData} (c_number_of : Cl P w K mg base CX0 1 "number_of" f_number_of fd_number_of ["figures", "most"] (spnumber_of K)) : FnOk P w K mg base CX0 2 f fd ["word"] (spgift_of K) := by
  refine F.ok sc_gift_of (fun vs H Q E h => ?_) (fun cdv A outer s H vs Q E hr h => ?_)
  · obtain ⟨z, rfl, _⟩ := h
    rfl
  · obtain ⟨z, rfl, hg, q⟩ := h
    obtain ⟨l1, l2, l3⟩ := hg.len
    have hwl := hg.wl_len
    refine ⟨_, (pss_cons (ps_asg (pe_partition (pv 0) pe_str) (pgT (K := K) (n := 3) rfl (pgs_cons (pg_name (i := 1) sc_gift_of.nd rfl (Or.inl rfl)) (pgs_cons (pg_name (i := 2) sc_gift_of.nd rfl (Or.inl rfl)) (pgs_cons (pg_name (i := 3) sc_gift_of.nd rfl (Or.inl rfl)) pgs_nil)))))
      (pss_cons (ps_asg (pe_partition (pv 1) pe_str) (pgT (K := K) (n := 3) rfl (pgs_cons (pg_name (i := 4) sc_gift_of.nd rfl (Or.inl rfl)) (pgs_cons (pg_name (i := 5) sc_gift_of.nd rfl (Or.inl rfl)) (pgs_cons (pg_name (i := 6) sc_gift_of.nd rfl (Or.inl rfl)) pgs_nil)))))
      (pss_cons (ps_if (PW.pt (pw_or (pt_cmpR op_eq (pv 2) pe_str (nomark _)) (pw_or1 (pt_cmpR op_eq (pv 5) pe_str (nomark _))))) (pss_one ps_never) pss_nil)
      (pss_cons (ps_set (i := 7) sc_gift_of.nd rfl (Or.inl rfl) (pe_call c_number_of.ok (hr.mono (by decide)) (by rfl) c_number_of.gl c_number_of.kp c_number_of.bd .nil pass0 (pa_cons (pv 4) (pa_cons pe_int pa_nil))))
      (pss_cons (ps_set (i := 8) sc_gift_of.nd rfl (Or.inl rfl) (pe_call c_number_of.ok (hr.mono (by decide)) (by rfl) c_number_of.gl c_number_of.kp c_number_of.bd .nil pass0 (pa_cons (pv 6) (pa_cons pe_int pa_nil))))
      (pss_cons (ps_set (i := 9) sc_gift_of.nd rfl (Or.inl rfl) (pe_call c_number_of.ok (hr.mono (by decide)) (by rfl) c_number_of.gl c_number_of.kp c_number_of.bd .nil pass0 (pa_cons (pv 3) (pa_cons pe_int pa_nil))))
      (pss_cons (ps_if (PW.pt (pw_or (pt_cmpR op_eq (pv 7) (pv 8) (nomark _)) (pw_or1 (pt_cmpR op_eq (pv 9) pe_int (nomark _))))) (pss_one ps_never) pss_nil)
      (pss_one (ps_ret (pe_tup (pa_cons (pv 7) (pa_cons (pv 8) (pa_cons (pv 9) pa_nil))))))))))))), Go.here ?_⟩
    refine gs_asgG ?_
    refine k_m1 ?_
    walk_at "ks"
    refine ⟨⟨_, rfl⟩, ?_⟩
    walk_at "ks"
    refine m_part lit_col (by omega) fun p np => ?_
    rw [Pn.part1 z]
    have e1 := Ex.new (o := .tup [V.str (SX.S (Pn.ends z)), V.str (SX.S [58]), V.str (SX.S (TL.numL z.2.2.toNat))]) np
    refine gk_tup3 (st_of upd_same) (gk_name (gk_name (gk_name ?_)))
    generalize upd H p (.tup [V.str (SX.S (Pn.ends z)), V.str (SX.S [58]), V.str (SX.S (TL.numL z.2.2.toNat))]) = H1 at e1
    refine gs_asgG ?_
    refine k_m1 ?_
    walk_at "ks"
    refine ⟨⟨_, rfl⟩, ?_⟩
    walk_at "ks"
    refine m_part lit_gt (by unfold Pn.ends; simp only [List.length_append, List.length_cons, List.length_nil]; omega) fun p2 np2 => ?_
    rw [Pn.part2 z]
    have e2 := e1.trans (Ex.new (o := .tup [V.str (SX.S (TL.numL z.1.toNat)), V.str (SX.S [62]), V.str (SX.S (TL.numL z.2.1.toNat))]) np2)
    refine gk_tup3 (st_of upd_same) (gk_name (gk_name (gk_name ?_)))
    generalize upd H1 p2 (.tup [V.str (SX.S (TL.numL z.1.toNat)), V.str (SX.S [62]), V.str (SX.S (TL.numL z.2.1.toNat))]) = H2 at e2
    walk_at "s"; walk_at "ks"
    refine r_eqL lit_e ?_
    walk_at "ks"
    refine ⟨fun hb => Bool.noConfusion hb, fun _ => ?_⟩
    walk_at "ks"
    refine r_eqL lit_e ?_
    walk_at "ks"
    refine ⟨fun hb => Bool.noConfusion hb, fun _ => ?_⟩
    walk_at "s"; walk_at "ks"
    refine k_number_of (m := 2) l1 (by decide) ?_
    walk_at "s"; walk_at "ks"
    refine k_number_of (m := 2) l2 (by decide) ?_
    walk_at "s"; walk_at "ks"
    refine k_number_of (m := 61) l3 (by decide) ?_
    have g0 := hg.g0
    have t0 := hg.t0
    have d0 := hg.d0
    have hne := hg.ne
    have ea : (z.1.toNat : Int) = z.1 := by omega
    have eb : (z.2.1.toNat : Int) = z.2.1 := by omega
    have ec : (z.2.2.toNat : Int) = z.2.2 := by omega
    rw [ea, eb, ec]
    walk_at "s"; walk_at "ks"
    rw [decide_eq_false hne]
    refine ⟨fun hb => Bool.noConfusion hb, fun _ => ?_⟩
    walk_at "ks"
    rw [decide_eq_false (by omega)]
    refine ⟨fun hb => Bool.noConfusion hb, fun _ => ?_⟩
    walk_at "s"; walk_at "ks"
    refine ⟨(by show 3 ≤ 100000; decide), fun r nr => ?_⟩
    exact q r _ (e2.trans (Ex.new nr)) (fresh_back e2 nr) upd_same
theorem ok_read {tk : Tok} (T : TxtF mg tk) {f : Addr} {fd : FuncData} (F : Fun K "read" "read" s_read f fd) (B : Bl mg) {f_gift_of : Addr} {fd_gift_of : FuncData} (c_gift_of : Cl P w K mg base CX0 2 "gift_of" f_gift_of fd_gift_of ["word"] (spgift_of K)) : FnOk P w K mg base CX0 3 f fd ["text"] (spread K) := by
  refine F.ok sc_read (fun vs H Q E h => ?_) (fun cdv A outer s H vs Q E hr h => ?_)
  · obtain ⟨Gs, rfl, _⟩ := h
    rfl
  · obtain ⟨Gs, rfl, hg, hl, q⟩ := h
    have hjl := Pn.join_len hg
    refine ⟨_, (pss_cons (ps_if (pt_cmpR op_eq (pv 0) pe_str (nomark _)) (pss_one (ps_ret (pe_lst pa_nil))) pss_nil)
      (pss_one (ps_ret (pe_lc (own := [("word", 1)]) (g := gName 1) (tt := tYes) rfl sc_read.nd (piL (K := K) (pe_split (pv 0) pe_str)) (blkOk_by (own := [("word", 1)]) (N := n_read) (sc := defScope s_read) (by decide +kernel)) (fun _ _ _ _ _ => pg_name (i := 1) sc_read.nd rfl (Or.inl rfl)) (fun _ _ _ _ _ => pts_nil) (fun _ _ _ _ _ => (pe_call c_gift_of.ok (hr.mono (by decide)) (by rfl) c_gift_of.gl c_gift_of.kp c_gift_of.bd .nil pass0 (pa_cons (pv 1) pa_nil))))))), Go.here ?_⟩
    walk_at "s"; walk_at "ks"
    refine r_eqL lit_e ?_
    walk_at "ks"
    refine ⟨fun hb => ?_, fun hb => ?_⟩
    · have h0 := of_decide_eq_true hb
      have hnil : Gs = [] := by
        by_cases c : Gs = []
        · exact c
        · exact absurd h0 (Pn.join_ne c)
      subst hnil
      walk_at "s"; walk_at "ks"
      refine ⟨(by show 0 ≤ 100000; decide), fun p np => ?_⟩
      exact q p [] _ (Ex.new np) np ⟨upd_same, rfl, fun i g z h => by cases h⟩
    have h0 := of_decide_eq_false hb
    have hne : Gs ≠ [] := fun e => h0 (by rw [e]; rfl)
    walk_at "s"
    refine k_lcW ?_
    refine k_m1 ?_
    walk_at "ks"
    refine ⟨⟨_, rfl⟩, ?_⟩
    walk_at "ks"
    refine m_split lit_sp (by decide) (by omega) fun p np => ?_
    rw [Pn.split_join hne]
    have e1 := Ex.new (o := .lst (((Gs.map Pn.wl).map SX.S).map V.str)) np
    have p1 : (upd H p (.lst (((Gs.map Pn.wl).map SX.S).map V.str))) p = some (.lst (((Gs.map Pn.wl).map SX.S).map V.str)) := upd_same
    generalize upd H p (.lst (((Gs.map Pn.wl).map SX.S).map V.str)) = H1 at e1 p1
    refine ⟨p, ((Gs.map Pn.wl).map SX.S).map V.str, fun D i acc Hy => ∃ qs : List Addr, acc = qs.map V.ref ∧ qs.length = i ∧ Ex H1 Hy ∧ Hy D = some (.lst acc) ∧ ∀ (k : Nat) g z, qs[k]? = some g → Gs[k]? = some z → Hy g = some (.tup [.int z.1, .int z.2.1, .int z.2.2]), rfl, by rw [List.length_map, List.length_map, List.length_map]; omega, sq_of p1, fun D nD => ⟨[], rfl, rfl, Ex.new nD, upd_same, fun k g z h => by cases h⟩, ?_, ?_, ?_⟩
    · rintro D i acc Hy nD ⟨qs, rfl, hq, e, hD, _⟩
      exact ⟨sq_of (e _ _ p1), by rw [List.length_map, hq]; exact Nat.le_refl _, hD⟩
    · rintro D i x acc Hy nD hx ⟨qs, rfl, hq, e, hD, ht⟩
      obtain ⟨z, hz, rfl⟩ : ∃ z, Gs[i]? = some z ∧ x = V.str (SX.S (Pn.wl z)) := by
        rw [List.getElem?_map, List.getElem?_map, List.getElem?_map] at hx
        cases ez : Gs[i]? with
        | none => rw [ez] at hx; cases hx
        | some z => rw [ez] at hx; exact ⟨z, rfl, (Option.some.inj hx).symm⟩
      refine gk_name ⟨rfl, kt_yes ⟨fun _ => ?_, fun hb => Bool.noConfusion hb⟩⟩
      walk_at "ks"
      refine k_gift_of (hg z (List.mem_of_getElem? hz)) fun g H2 e2 ng hgt => ?_
      refine ⟨e2 _ _ hD, qs ++ [g], by rw [List.map_append]; rfl, by rw [List.length_append, hq]; rfl, Ex.mut (e.trans e2) nD, upd_same, fun k u y hu hy => ?_⟩
      have hDu : ∀ b w, H2 b = some (.tup w) → (upd H2 D (.lst (qs.map V.ref ++ [V.ref g]))) b = some (.tup w) := fun b w hb => by
        rw [upd_ne (fun eb => by subst eb; rw [e2 _ _ hD] at hb; cases hb)]
        exact hb
      rcases snoc_at hu with ⟨h1, h2⟩ | ⟨h1, h2⟩
      · exact hDu _ _ (e2 _ _ (ht k u y h2 hy))
      · subst h1 h2
        rw [hq, hz] at hy
        obtain rfl := Option.some.inj hy
        exact hDu _ _ hgt
    · rintro D acc Hy nD ⟨qs, rfl, hq, e, hD, ht⟩
      rw [List.length_map, List.length_map, List.length_map] at hq
      exact q D qs Hy (e1.trans e) (fresh_back e1 nD) ⟨hD, hq, ht⟩
theorem ok_Lwhole {tk : Tok} (T : TxtF mg tk) {f : Addr} {fd : FuncData} (F : Fun K "_law_whole" "_law_whole" s_Lwhole f fd) (B : Bl mg) : FnOk P w K mg base CX0 1 f fd ["_law_found"] (spLwhole K) := by
  refine F.ok sc_Lwhole (fun vs H Q E h => ?_) (fun cdv A outer s H vs Q E hr h => ?_)
  · obtain ⟨i, rfl, _⟩ := h
    rfl
  · obtain ⟨i, rfl, q⟩ := h
    refine ⟨_, (pss_one (ps_ret (pe_and (pe_callB (bIsi (K := K)) (by rfl) B.isinstance_ boot_isinstance (pa_cons (pv 0) (pa_cons (pe_bltn (v := .ty "int") (by rfl) B.int_ boot_int rfl) pa_nil))) (pe_one (pe_not (pe_callB (bIsi (K := K)) (by rfl) B.isinstance_ boot_isinstance (pa_cons (pv 0) (pa_cons (pe_bltn (v := .ty "bool") (by rfl) B.bool_ boot_bool rfl) pa_nil)))))))), Go.here ?_⟩
    walk_at "s"; walk_at "ks"
    refine c_int_int ?_
    walk_at "ks"
    refine ⟨fun _ => ?_, fun hb => Bool.noConfusion hb⟩
    walk_at "ks"
    refine c_int_bool ?_
    walk_at "ks"
    exact q
theorem ok_Lgift {tk : Tok} (T : TxtF mg tk) {f : Addr} {fd : FuncData} (F : Fun K "_law_gift" "_law_gift" s_Lgift f fd) (B : Bl mg) : FnOk P w K mg base CX0 1 f fd ["_law_cell"] (spLgift K) := by
  refine F.ok sc_Lgift (fun vs H Q E h => ?_) (fun cdv A outer s H vs Q E hr h => ?_)
  · obtain ⟨c, rfl, _⟩ := h
    rfl
  · obtain ⟨c, rfl, bc, q⟩ := h
    refine ⟨_, (pss_cons (ps_set (i := 1) sc_Lgift.nd rfl (Or.inl rfl) (pe_op op_mod (pe_op op_mulX (pv 0) pe_int) pe_int))
      (pss_cons (ps_set (i := 2) sc_Lgift.nd rfl (Or.inl rfl) (pe_op op_mod (pv 1) pe_int))
      (pss_cons (ps_set (i := 3) sc_Lgift.nd rfl (Or.inl rfl) (pe_op op_mod (pe_op op_add (pe_op op_add (pv 2) pe_int) (pe_op op_mod (pe_op op_fdiv (pv 1) pe_int) pe_int)) pe_int))
      (Evl.pss_cut (ps_if (pt_cmpR op_eq (pe_op op_mod (pe_op op_fdiv (pv 1) pe_int) pe_int) pe_int (nomark _)) (pss_cons (ps_set (i := 2) sc_Lgift.nd rfl (Or.inl rfl) (pe_op op_mod (pv 2) pe_int))
      (pss_one (ps_set (i := 3) sc_Lgift.nd rfl (Or.inl rfl) (pe_op op_mod (pe_op op_add (pe_op op_add (pv 2) pe_int) (pe_op op_mod (pe_op op_fdiv (pv 1) pe_int) pe_int)) pe_int)))) pss_nil)
      (pss_cons (ps_set (i := 4) sc_Lgift.nd rfl (Or.inl rfl) (pe_ix (ixl (K := K)) (pe_lst (pa_cons pe_int (pa_cons pe_int (pa_cons (pe_op op_pow pe_int pe_int) (pa_cons (pe_op op_pow pe_int pe_int) (pa_cons (pe_op op_pow pe_int pe_int) (pa_cons (pe_op op_sub (pe_op op_pow pe_int pe_int) pe_int) pa_nil))))))) (pe_op op_mod (pe_op op_fdiv (pv 1) pe_int) pe_int) (fun _ _ => rfl)))
      (pss_cons (ps_set (i := 5) sc_Lgift.nd rfl (Or.inl rfl) (pe_op op_add pe_int (pe_op op_mod (pe_op op_mulX (pv 0) pe_int) (pv 4))))
      (pss_one (ps_ret (pe_tup (pa_cons (pv 2) (pa_cons (pv 3) (pa_cons (pv 5) pa_nil)))))))))))), Go.here ?_⟩
    walk_at "s"; walk_at "ks"
    generalize c * 48271 % 2147483647 = m
    have m0 := Int.emod_nonneg m (show (100 : Int) ≠ 0 by decide)
    have m1 := Int.emod_lt_of_pos m (show (0 : Int) < 100 by decide)
    walk_at "s"; walk_at "ks"
    generalize m % 100 = g at m0 m1
    walk_at "s"; walk_at "ks"
    have n0 := Int.emod_nonneg (m / 100) (show (99 : Int) ≠ 0 by decide)
    have n1 := Int.emod_lt_of_pos (m / 100) (show (0 : Int) < 99 by decide)
    have o0 := Int.emod_nonneg (m / 100) (show (11 : Int) ≠ 0 by decide)
    have o1 := Int.emod_lt_of_pos (m / 100) (show (0 : Int) < 11 by decide)
    refine gs_mid (fun σ' H' => ∃ g t : Int, 0 ≤ g ∧ g < 100 ∧ 0 ≤ t ∧ t < 100 ∧ g ≠ t ∧ σ' = [some (.int c), some (.int m), some (.int g), some (.int t), none, none] ∧ H = H') ?_ ?_
    · walk_at "s"; walk_at "ks"
      refine ⟨fun hb => ?_, fun hb => ?_⟩
      · walk_at "s"; walk_at "ks"
        walk_at "s"; walk_at "ks"
        exact fun H1 e1 => ⟨_, e1, _, _, by omega, by omega, by omega, by omega, by omega, rfl, rfl⟩
      · exact g1_next fun H1 e1 => ⟨_, e1, _, _, m0, m1, by omega, by omega, by omega, rfl, rfl⟩
    clear m0 m1 n0 n1 o0 o1
    clear g
    rintro σ' H' ⟨g, t, g0, g1, t0, t1, hne, rfl, rfl⟩
    walk_at "s"; walk_at "ks"
    refine ⟨(by show 6 ≤ 100000; decide), fun p np => ?_⟩
    walk_at "ks"
    have k0 := Int.emod_nonneg (m / 9900) (show (6 : Int) ≠ 0 by decide)
    have k1 := Int.emod_lt_of_pos (m / 9900) (show (0 : Int) < 6 by decide)
    generalize m / 9900 % 6 = kd at k0 k1
    have hmost : ∃ most : Int, 10 ≤ most ∧ most ≤ 10 ^ 61 - 1 ∧ atI [V.int 10, V.int 1000, V.int (10 ^ Int.toNat 9), V.int (10 ^ Int.toNat 18), V.int (10 ^ Int.toNat 40), V.int (10 ^ Int.toNat 61 - 1)] kd = some (.int most) := by
      have hk : kd = 0 ∨ kd = 1 ∨ kd = 2 ∨ kd = 3 ∨ kd = 4 ∨ kd = 5 := by omega
      rcases hk with rfl | rfl | rfl | rfl | rfl | rfl
      · exact ⟨_, by decide +kernel, by decide +kernel, rfl⟩
      · exact ⟨_, by decide +kernel, by decide +kernel, rfl⟩
      · exact ⟨_, by decide +kernel, by decide +kernel, rfl⟩
      · exact ⟨_, by decide +kernel, by decide +kernel, rfl⟩
      · exact ⟨_, by decide +kernel, by decide +kernel, rfl⟩
      · exact ⟨_, by decide +kernel, by decide +kernel, rfl⟩
    obtain ⟨most, h1, h2, h3⟩ := hmost
    refine r_ixL (sq_of upd_same) h3 ?_
    have e1 := Ex.new (o := .lst [V.int 10, V.int 1000, V.int (10 ^ Int.toNat 9), V.int (10 ^ Int.toNat 18), V.int (10 ^ Int.toNat 40), V.int (10 ^ Int.toNat 61 - 1)]) np
    generalize upd H p (.lst [V.int 10, V.int 1000, V.int (10 ^ Int.toNat 9), V.int (10 ^ Int.toNat 18), V.int (10 ^ Int.toNat 40), V.int (10 ^ Int.toNat 61 - 1)]) = H1 at e1
    walk_at "s"; walk_at "ks"
    have r0 := Int.emod_nonneg (c * 3141592653589793238462643383279502884197169399375105820974949) (show most ≠ 0 by omega)
    have r1 := Int.emod_lt_of_pos (c * 3141592653589793238462643383279502884197169399375105820974949) (show 0 < most by omega)
    generalize c * 3141592653589793238462643383279502884197169399375105820974949 % most = x at r0 r1
    walk_at "s"; walk_at "ks"
    refine ⟨(by show 3 ≤ 100000; decide), fun r nr => ?_⟩
    refine q (g, t, 1 + x) r _ ⟨g0, g1, t0, t1, hne, by show 1 ≤ 1 + x; omega, ?_⟩ (e1.trans (Ex.new nr)) (fresh_back e1 nr) upd_same
    show 1 + x < 10 ^ 61
    omega
theorem ok_Lwords {tk : Tok} (T : TxtF mg tk) {f : Addr} {fd : FuncData} (F : Fun K "_law_words" "_law_words" s_Lwords f fd) (B : Bl mg) : FnOk P w K mg base CX0 1 f fd ["_law_gifts"] (spLwords K) := by
  refine F.ok sc_Lwords (fun vs H Q E h => ?_) (fun cdv A outer s H vs Q E hr h => ?_)
  · obtain ⟨a, gs, Gs, rfl, _⟩ := h
    rfl
  · obtain ⟨a, gs, Gs, rfl, hG, hgd, hl, q⟩ := h
    refine ⟨_, (pss_one (ps_ret (pe_lc (own := [("_law_giver", 1), ("_law_taker", 2), ("_law_amount", 3)]) (g := gTup K 3 (gCons (gName 1) (gCons (gName 2) (gCons (gName 3) gNil)))) (tt := tYes) rfl sc_Lwords.nd (piL (K := K) (pv 0)) (blkOk_by (own := [("_law_giver", 1), ("_law_taker", 2), ("_law_amount", 3)]) (N := n_Lwords) (sc := defScope s_Lwords) (by decide +kernel)) (fun _ _ _ _ _ => pgT (K := K) (n := 3) rfl (pgs_cons (pg_name (i := 1) sc_Lwords.nd rfl (Or.inl rfl)) (pgs_cons (pg_name (i := 2) sc_Lwords.nd rfl (Or.inl rfl)) (pgs_cons (pg_name (i := 3) sc_Lwords.nd rfl (Or.inl rfl)) pgs_nil)))) (fun _ _ _ _ _ => pts_nil) (fun _ _ _ _ _ => (pe_op op_add_str (pe_op op_add_str (pe_op op_add_str (pe_op op_add_str (pe_callTy call_str_int (by rfl) B.str_ boot_str (pa_cons (pv 1) pa_nil)) pe_str) (pe_callTy call_str_int (by rfl) B.str_ boot_str (pa_cons (pv 2) pa_nil))) pe_str) (pe_callTy call_str_int (by rfl) B.str_ boot_str (pa_cons (pv 3) pa_nil))))))), Go.here ?_⟩
    walk_at "s"
    refine k_lcW ?_
    walk_at "ks"
    refine ⟨a, gs.map V.ref, fun D i acc Hy => acc = (((Gs.take i).map Pn.wl).map SX.S).map V.str ∧ upd H D (.lst acc) = Hy, rfl, by rw [List.length_map, hG.len]; omega, hG.lst, fun D nD => ⟨rfl, rfl⟩, ?_, ?_, ?_⟩
    · rintro D i acc Hy nD ⟨rfl, rfl⟩
      exact ⟨(hG.up (Ex.new nD)).lst, by rw [List.length_map, List.length_map, List.length_map, List.length_take]; omega, upd_same⟩
    · rintro D i x acc Hy nD hx ⟨rfl, rfl⟩
      obtain ⟨g, hg, rfl⟩ := refs_at hx
      have hil : i < Gs.length := by
        have := (List.getElem?_eq_some_iff.mp hg).1
        rw [hG.len] at this
        exact this
      obtain ⟨z, hz⟩ : ∃ z, Gs[i]? = some z := ⟨_, List.getElem?_eq_getElem hil⟩
      have gd := hgd z (List.mem_of_getElem? hz)
      obtain ⟨l1, l2, l3⟩ := gd.len
      have g0 := gd.g0
      have g1 := gd.g1
      have t0 := gd.t0
      have t1 := gd.t1
      have d0 := gd.d0
      have d1 := gd.d1
      have b3 : Bd 1900 z.2.2 := Bd.mono (n := 203) (Bd.le (j := 10 ^ 61) (by
        have e : ((10 : Int) ^ 61) = ((10 ^ 61 : Nat) : Int) := by decide +kernel
        rw [e] at d1 ⊢
        omega) (by unfold Bd; decide +kernel)) (by decide)
      have b1 : Bd 1900 z.1 := Bd.mono (n := 7) (by unfold Bd; omega) (by decide)
      have b2 : Bd 1900 z.2.1 := Bd.mono (n := 7) (by unfold Bd; omega) (by decide)
      refine gk_tup3 ((hG.up (Ex.new nD)).tup i g z hg hz) (gk_name (gk_name (gk_name ?_)))
      refine ⟨rfl, kt_yes ⟨fun _ => ?_, fun hb => Bool.noConfusion hb⟩⟩
      walk_at "ks"
      refine c_strI g0 b1 ?_
      walk_at "ks"
      refine r_addL lit_gt (by show _ + 1 ≤ _; omega) ?_
      walk_at "ks"
      refine c_strI t0 b2 ?_
      refine r_addS (by rw [List.length_append]; show _ + 1 + _ ≤ _; omega) ?_
      walk_at "ks"
      refine r_addL lit_col (by rw [List.length_append, List.length_append]; show _ + 1 + _ + 1 ≤ _; omega) ?_
      walk_at "ks"
      refine c_strI (by omega) b3 ?_
      refine r_addS (by rw [List.length_append, List.length_append, List.length_append]; show _ + 1 + _ + 1 + _ ≤ _; omega) ?_
      have ew : Pn.wl z = TL.numL z.1.toNat ++ [62] ++ TL.numL z.2.1.toNat ++ [58] ++ TL.numL z.2.2.toNat := by
        unfold Pn.wl Pn.ends
        simp only [List.append_assoc]
      rw [← ew]
      refine ⟨upd_same, ?_, by rw [upd_upd]⟩
      rw [Pm.take_more hz, List.map_append, List.map_append, List.map_append]
      rfl
    · rintro D acc Hy nD ⟨rfl, rfl⟩
      rw [List.length_map, hG.len, List.take_length]
      exact q D nD
theorem ok_Lalike {tk : Tok} (T : TxtF mg tk) {f : Addr} {fd : FuncData} (F : Fun K "_law_alike" "_law_alike" s_Lalike f fd) (B : Bl mg) {f_Lwhole : Addr} {fd_Lwhole : FuncData} (c_Lwhole : Cl P w K mg base CX0 1 "_law_whole" f_Lwhole fd_Lwhole ["_law_found"] (spLwhole K)) : FnOk P w K mg base CX0 2 f fd ["_law_found", "_law_due"] (spLalike K) := by
  refine F.ok sc_Lalike (fun vs H Q E h => ?_) (fun cdv A outer s H vs Q E hr h => ?_)
  · obtain ⟨a, b, fs, gs, Gs, rfl, _⟩ := h
    rfl
  · obtain ⟨a, b, fs, gs, Gs, rfl, hF, hG, hl, q⟩ := h
    refine ⟨_, (pss_cons (ps_if (PW.pt (pw_or (pt_not (pt_val (pe_callB (bIsi (K := K)) (by rfl) B.isinstance_ boot_isinstance (pa_cons (pv 0) (pa_cons (pe_bltn (v := .ty "list") (by rfl) B.list_ boot_list rfl) pa_nil))))) (pw_or1 (pt_cmpR op_ne (pe_callB (bLen (K := K)) (by rfl) B.len_ boot_len (pa_cons (pv 0) pa_nil)) (pe_callB (bLen (K := K)) (by rfl) B.len_ boot_len (pa_cons (pv 1) pa_nil)) (nomark _))))) (pss_one (ps_ret pe_bl)) pss_nil)
      (pss_cons (ps_for PassesOwn.never rfl (pi_range1 (by rfl) B.range_ (pa_cons (pe_callB (bLen (K := K)) (by rfl) B.len_ boot_len (pa_cons (pv 1) pa_nil)) pa_nil)) (pg_name (i := 2) sc_Lalike.nd rfl (Or.inl rfl)) (pss_cons (ps_if (PW.pt (pw_or (pt_not (pt_val (pe_callB (bIsi (K := K)) (by rfl) B.isinstance_ boot_isinstance (pa_cons (pe_ix (ixl (K := K)) (pv 0) (pv 2) (fun _ _ => rfl)) (pa_cons (pe_bltn (v := .ty "tuple") (by rfl) B.tuple_ boot_tuple rfl) pa_nil))))) (pw_or1 (pt_cmpR op_ne (pe_callB (bLen (K := K)) (by rfl) B.len_ boot_len (pa_cons (pe_ix (ixl (K := K)) (pv 0) (pv 2) (fun _ _ => rfl)) pa_nil)) pe_int (nomark _))))) (pss_one (ps_ret pe_bl)) pss_nil)
      (pss_one (ps_for PassesOwn.never rfl (pi_range1 (by rfl) B.range_ (pa_cons pe_int pa_nil)) (pg_name (i := 3) sc_Lalike.nd rfl (Or.inl rfl)) (pss_one (ps_if (PW.pt (pw_or (pt_not (pt_val (pe_call c_Lwhole.ok (hr.mono (by decide)) (by rfl) c_Lwhole.gl c_Lwhole.kp c_Lwhole.bd .nil pass0 (pa_cons (pe_ix (ixt (K := K)) (pe_ix (ixl (K := K)) (pv 0) (pv 2) (fun _ _ => rfl)) (pv 3) (fun _ _ => rfl)) pa_nil)))) (pw_or1 (pt_cmpR op_ne (pe_ix (ixt (K := K)) (pe_ix (ixl (K := K)) (pv 0) (pv 2) (fun _ _ => rfl)) (pv 3) (fun _ _ => rfl)) (pe_ix (ixt (K := K)) (pe_ix (ixl (K := K)) (pv 1) (pv 2) (fun _ _ => rfl)) (pv 3) (fun _ _ => rfl)) (nomark _))))) (pss_one (ps_ret pe_bl)) pss_nil))))))
      (pss_one (ps_ret pe_bl)))), Go.here ?_⟩
    walk_at "s"; walk_at "ks"
    refine c_list_list hF.lst ?_
    walk_at "ks"
    refine ⟨fun hb => Bool.noConfusion hb, fun _ => ?_⟩
    walk_at "ks"
    refine c_len (sq_of hF.lst) ?_
    walk_at "ks"
    refine c_len hG.lst ?_
    rw [List.length_map, List.length_map, hF.len, hG.len]
    walk_at "ks"
    rw [decide_eq_true rfl]
    refine ⟨fun hb => Bool.noConfusion hb, fun _ => ?_⟩
    refine gs_forR (n := (Gs.length : Int)) (fun i σ' H' => ∃ v2 v3 : Option V, σ' = [some (.ref a), some (.ref b), v2, v3] ∧ H = H') ?_ ?_ ?_
    · walk_at "ks"
      refine c_len hG.lst ?_
      rw [List.length_map, hG.len]
      walk_at "ks"
      exact ⟨rfl, by omega, by omega, none, none, rfl, rfl⟩
    · rintro i σ' H' hi ⟨v2, v3, rfl, rfl⟩
      have hil : i < Gs.length := by omega
      obtain ⟨z, hz⟩ : ∃ z, Gs[i]? = some z := ⟨_, List.getElem?_eq_getElem hil⟩
      obtain ⟨f, hf⟩ : ∃ f, fs[i]? = some f := ⟨_, List.getElem?_eq_getElem (by rw [hF.len]; exact hil)⟩
      obtain ⟨g, hg⟩ : ∃ g, gs[i]? = some g := ⟨_, List.getElem?_eq_getElem (by rw [hG.len]; exact hil)⟩
      have tf := hF.tup i f z hf hz
      have tg := hG.tup i g z hg hz
      have rdF : ∀ (P : V → Hp → Prop), P (.ref f) H → RK (rIxL K) (.ref a) (.int (i : Int)) H P := fun P hp => r_ixL (sq_of hF.lst) (atI_nat (by rw [List.getElem?_map, hf]; rfl)) hp
      have rdG : ∀ (P : V → Hp → Prop), P (.ref g) H → RK (rIxL K) (.ref b) (.int (i : Int)) H P := fun P hp => r_ixL hG.lst (atI_nat (by rw [List.getElem?_map, hg]; rfl)) hp
      walk_at "s"; walk_at "ks"
      refine rdF _ ?_
      walk_at "ks"
      refine c_tup_tup tf ?_
      walk_at "ks"
      refine ⟨fun hb => Bool.noConfusion hb, fun _ => ?_⟩
      walk_at "ks"
      refine rdF _ ?_
      walk_at "ks"
      refine c_lenT (st_of tf) ?_
      walk_at "ks"
      refine ⟨fun hb => Bool.noConfusion hb, fun _ => ?_⟩
      refine gs_forR (n := 3) (fun j σ' H' => ∃ v3 : Option V, σ' = [some (.ref a), some (.ref b), some (.int (i : Int)), v3] ∧ H = H') ?_ ?_ ?_
      · walk_at "ks"
        exact ⟨rfl, by decide, by decide, _, rfl, rfl⟩
      · rintro j σ' H' hj ⟨v3, rfl, rfl⟩
        obtain ⟨y, hy⟩ : ∃ y : Int, atI [V.int z.1, V.int z.2.1, V.int z.2.2] (j : Int) = some (.int y) := by
          have hj3 : j = 0 ∨ j = 1 ∨ j = 2 := by omega
          rcases hj3 with rfl | rfl | rfl
          · exact ⟨_, rfl⟩
          · exact ⟨_, rfl⟩
          · exact ⟨_, rfl⟩
        walk_at "s"; walk_at "ks"
        refine rdF _ ?_
        walk_at "ks"
        refine r_ixT (st_of tf) hy ?_
        walk_at "ks"
        refine k_Lwhole ?_
        walk_at "ks"
        refine ⟨fun hb => Bool.noConfusion hb, fun _ => ?_⟩
        walk_at "ks"
        refine rdF _ ?_
        walk_at "ks"
        refine r_ixT (st_of tf) hy ?_
        walk_at "ks"
        refine rdG _ ?_
        walk_at "ks"
        refine r_ixT tg hy ?_
        walk_at "ks"
        rw [decide_eq_true rfl]
        refine ⟨fun hb => Bool.noConfusion hb, fun _ => ?_⟩
        exact g1_next fun H1 e1 => ⟨_, e1, _, rfl, rfl⟩
      · rintro σ' H' ⟨v3, rfl, rfl⟩
        exact g1_next fun H1 e1 => ⟨_, e1, _, _, rfl, rfl⟩
    · rintro σ' H' ⟨v2, v3, rfl, rfl⟩
      walk_at "s"; walk_at "ks"
      exact q
theorem ok_law {tk : Tok} (T : TxtF mg tk) {f : Addr} {fd : FuncData} (F : Fun K "law" "law" s_law f fd) (B : Bl mg) {f_Lalike : Addr} {fd_Lalike : FuncData} (c_Lalike : Cl P w K mg base CX0 2 "_law_alike" f_Lalike fd_Lalike ["_law_found", "_law_due"] (spLalike K)) {f_Lgift : Addr} {fd_Lgift : FuncData} (c_Lgift : Cl P w K mg base CX0 1 "_law_gift" f_Lgift fd_Lgift ["_law_cell"] (spLgift K)) {f_Lwords : Addr} {fd_Lwords : FuncData} (c_Lwords : Cl P w K mg base CX0 1 "_law_words" f_Lwords fd_Lwords ["_law_gifts"] (spLwords K)) {f_read : Addr} {fd_read : FuncData} (c_read : Cl P w K mg base CX0 3 "read" f_read fd_read ["text"] (spread K)) {f_shown : Addr} {fd_shown : FuncData} (c_shown : Cl P w K mg base CX0 1 "shown" f_shown fd_shown ["gifts"] (spshown K)) : FnOk P w K mg base CX0 4 f fd ["_law_script"] (spLaw K) := by
  refine F.ok sc_law (fun vs H Q E h => ?_) (fun cdv A outer s H vs Q E hr h => ?_)
  · obtain ⟨a, ns, rfl, _⟩ := h
    rfl
  · obtain ⟨a, ns, rfl, hS, hl, hbits, q⟩ := h
    have hB : AllBd 1048576 ns := fun z hz => Bd.bits (hbits z hz)
    refine ⟨_, (pss_cons (ps_setLc (i := 1) (own := [("_law_cell", 8)]) (g := gName 8) (tt := tYes) rfl sc_law.nd rfl rfl (sw_true rfl rfl rfl (by decide +kernel)) (piL (K := K) (pe_slice (sll (K := K)) (pv 0) po_none (po_some pe_int))) (blkOk_by (own := [("_law_cell", 8)]) (N := n_law) (sc := defScope s_law) (by decide +kernel)) (fun _ _ _ _ _ => pg_name (i := 8) sc_law.nd rfl (Or.inl rfl)) (fun _ _ _ _ _ => pts_nil) (fun _ _ _ _ _ => (pe_call c_Lgift.ok (hr.mono (by decide)) (by rfl) c_Lgift.gl c_Lgift.kp c_Lgift.bd .nil pass0 (pa_cons (pv 8) pa_nil))))
      (pss_cons (ps_set (i := 2) sc_law.nd rfl (Or.inl rfl) (pe_joinK (K := K) pe_str (pe_call c_Lwords.ok (hr.mono (by decide)) (by rfl) c_Lwords.gl c_Lwords.kp c_Lwords.bd .nil pass0 (pa_cons (pv 1) pa_nil))))
      (pss_cons (ps_set (i := 3) sc_law.nd rfl (Or.inl rfl) (pe_callTy (bList (K := K)) (by rfl) B.list_ boot_list (pa_cons (pv 1) pa_nil)))
      (pss_cons (ps_set (i := 4) sc_law.nd rfl (Or.inl rfl) (pe_call c_shown.ok (hr.mono (by decide)) (by rfl) c_shown.gl c_shown.kp c_shown.bd .nil pass0 (pa_cons (pv 3) pa_nil)))
      (pss_cons (ps_if (PW.pt (pw_or (pt_not (pt_val (pe_callB (bIsi (K := K)) (by rfl) B.isinstance_ boot_isinstance (pa_cons (pv 4) (pa_cons (pe_bltn (v := .ty "str") (by rfl) B.str_ boot_str rfl) pa_nil))))) (pw_or (pt_cmpR op_ne (pv 4) (pv 2) (nomark _)) (pw_or1 (pt_cmpR (oNeD (K := K) hr.units) (pv 3) (pv 1) (nomark _)))))) (pss_one (ps_ret pe_bl)) pss_nil)
      (pss_cons (ps_set (i := 5) sc_law.nd rfl (Or.inl rfl) (pe_call c_read.ok (hr.mono (by decide)) (by rfl) c_read.gl c_read.kp c_read.bd .nil pass0 (pa_cons (pv 2) pa_nil)))
      (pss_cons (ps_if (pt_not (pt_val (pe_call c_Lalike.ok (hr.mono (by decide)) (by rfl) c_Lalike.gl c_Lalike.kp c_Lalike.bd .nil pass0 (pa_cons (pv 5) (pa_cons (pv 1) pa_nil))))) (pss_one (ps_ret pe_bl)) pss_nil)
      (pss_cons (ps_expr (peBm (K := K) PySem.F.plainAttrs_list PySem.F.slot_list_append PySem.F.type_list_append mt_append (pv 3) (pa_cons (pe_tup (pa_cons pe_int (pa_cons pe_int (pa_cons pe_int pa_nil)))) pa_nil)))
      (pss_cons (ps_set (i := 6) sc_law.nd rfl (Or.inl rfl) (pe_joinK (K := K) pe_str (pe_call c_Lwords.ok (hr.mono (by decide)) (by rfl) c_Lwords.gl c_Lwords.kp c_Lwords.bd .nil pass0 (pa_cons (pe_slice (sll (K := K)) (pv 1) (po_some (pe_un un_neg pe_int)) po_none) pa_nil))))
      (pss_cons (ps_if (PW.pt (pw_or (pt_cmpR op_ne (pe_call c_shown.ok (hr.mono (by decide)) (by rfl) c_shown.gl c_shown.kp c_shown.bd .nil pass0 (pa_cons (pe_slice (sll (K := K)) (pv 1) (po_some (pe_un un_neg pe_int)) po_none) pa_nil)) (pv 6) (nomark _)) (pw_or1 (pt_not (pt_val (pe_call c_Lalike.ok (hr.mono (by decide)) (by rfl) c_Lalike.gl c_Lalike.kp c_Lalike.bd .nil pass0 (pa_cons (pe_call c_read.ok (hr.mono (by decide)) (by rfl) c_read.gl c_read.kp c_read.bd .nil pass0 (pa_cons (pv 6) pa_nil)) (pa_cons (pe_slice (sll (K := K)) (pv 1) (po_some (pe_un un_neg pe_int)) po_none) pa_nil)))))))) (pss_one (ps_ret pe_bl)) pss_nil)
      (pss_cons (ps_set (i := 7) sc_law.nd rfl (Or.inl rfl) (pe_call c_read.ok (hr.mono (by decide)) (by rfl) c_read.gl c_read.kp c_read.bd .nil pass0 (pa_cons (pv 2) pa_nil)))
      (pss_cons (ps_expr (peBm (K := K) PySem.F.plainAttrs_list PySem.F.slot_list_append PySem.F.type_list_append mt_append (pv 7) (pa_cons (pe_tup (pa_cons pe_int (pa_cons pe_int (pa_cons pe_int pa_nil)))) pa_nil)))
      (pss_one (ps_ret (pe_and (pe_cmpR op_eq (pv 4) (pv 2) (nomark _)) (pe_and (pe_call c_Lalike.ok (hr.mono (by decide)) (by rfl) c_Lalike.gl c_Lalike.kp c_Lalike.bd .nil pass0 (pa_cons (pv 5) (pa_cons (pv 1) pa_nil))) (pe_one (pe_call c_Lalike.ok (hr.mono (by decide)) (by rfl) c_Lalike.gl c_Lalike.kp c_Lalike.bd .nil pass0 (pa_cons (pv 7) (pa_cons (pe_op op_cat (pv 1) (pe_lst (pa_cons (pe_tup (pa_cons pe_int (pa_cons pe_int (pa_cons pe_int pa_nil)))) pa_nil))) pa_nil)))))))))))))))))))), Go.here ?_⟩
    walk_at "s"
    refine k_lcW ?_
    walk_at "ks"
    refine r_slL hS fun c nc => ?_
    obtain ⟨cs, ec, hcs1, hcs2⟩ := cut_ints ns none (some 63)
    rw [ec]
    have e1 : Ex H (upd H c (.lst (cs.map V.int))) := Ex.new nc
    have c1 : (upd H c (.lst (cs.map V.int))) c = some (.lst (cs.map V.int)) := upd_same
    generalize upd H c (.lst (cs.map V.int)) = H1 at e1 c1
    refine ⟨c, cs.map V.int, fun D i acc Hy => ∃ (qs : List Addr) (Zs : List Pg.Gift), acc = qs.map V.ref ∧ qs.length = i ∧ Zs.length = i ∧ Ex H1 Hy ∧ Hy D = some (.lst acc) ∧ (∀ z ∈ Zs, Pn.Gd z) ∧ ∀ (k : Nat) g z, qs[k]? = some g → Zs[k]? = some z → Hy g = some (.tup [.int z.1, .int z.2.1, .int z.2.2]), rfl, by rw [List.length_map]; omega, sq_of c1, fun D nD => ⟨[], [], rfl, rfl, rfl, Ex.new nD, upd_same, (fun z h => by cases h), fun k g z h => by cases h⟩, ?_, ?_, ?_⟩
    · rintro D i acc Hy nD ⟨qs, Zs, rfl, hq, _, e, hD, _⟩
      exact ⟨sq_of (e _ _ c1), by rw [List.length_map, hq]; exact Nat.le_refl _, hD⟩
    · rintro D i x acc Hy nD hx ⟨qs, Zs, rfl, hq, hZ, e, hD, hgd, ht⟩
      obtain ⟨y, hy, rfl⟩ := Pm.map_at hx
      refine gk_name ⟨rfl, kt_yes ⟨fun _ => ?_, fun hb => Bool.noConfusion hb⟩⟩
      walk_at "ks"
      refine k_Lgift (hB y (hcs1 y (List.mem_of_getElem? hy))) fun z g H2 gz e2 ng hgt => ?_
      refine ⟨e2 _ _ hD, qs ++ [g], Zs ++ [z], by rw [List.map_append]; rfl, by rw [List.length_append, hq]; rfl, by rw [List.length_append, hZ]; rfl, Ex.mut (e.trans e2) nD, upd_same, fun u hu => ?_, fun k u y hu hy => ?_⟩
      · rcases List.mem_append.mp hu with h1 | h1
        · exact hgd u h1
        · rw [List.mem_singleton.mp h1]
          exact gz
      have hDu : ∀ b w, H2 b = some (.tup w) → (upd H2 D (.lst (qs.map V.ref ++ [V.ref g]))) b = some (.tup w) := fun b w hb => by
        rw [upd_ne (fun eb => by subst eb; rw [e2 _ _ hD] at hb; cases hb)]
        exact hb
      rcases snoc_at hu with ⟨h1, h2⟩ | ⟨h1, h2⟩
      · rw [List.getElem?_append_left (by omega)] at hy
        exact hDu _ _ (e2 _ _ (ht k u y h2 hy))
      · subst h1 h2
        rw [List.getElem?_append_right (by omega), hq, hZ, Nat.sub_self] at hy
        have e5 : z = y := Option.some.inj hy
        subst e5
        exact hDu _ _ hgt
    rintro A acc H2 nA ⟨gs, Gs, rfl, hq, hZ, e12, hA2, hgd, htup⟩
    have e2 := e1.trans e12
    have hA : GfH H2 A gs Gs := ⟨hA2, by omega, htup⟩
    have hGl : Gs.length ≤ 63 := by
      rw [List.length_map] at hZ
      omega
    clear hA2 htup nA e12 c1 e1 hq hZ nc ec hcs1 hcs2
    have hjl := Pn.join_len hgd
    have hsl := Pn.sum_len hgd
    walk_at "s"
    refine k_m1 ?_
    walk_at "ks"
    refine ⟨⟨_, rfl⟩, ?_⟩
    walk_at "ks"
    refine k_Lwords hA.gfl hgd (by omega) fun w1 nw1 => ?_
    refine m_join (ys := Gs.map Pn.wl) lit_sp (sq_of upd_same) (by rw [List.length_map]; show _ + _ * 1 ≤ _; omega) ?_
    have f1 : Ex H2 (upd H2 w1 (.lst (((Gs.map Pn.wl).map SX.S).map V.str))) := Ex.new nw1
    generalize upd H2 w1 (.lst (((Gs.map Pn.wl).map SX.S).map V.str)) = H3 at f1
    generalize hJ : TL.joinL [32] (Gs.map Pn.wl) = J
    walk_at "s"; walk_at "ks"
    refine c_list (sq_of (hA.up f1).lst) fun h nh => ?_
    have nh0 : H2 h = none := fresh_back f1 nh
    have f2 := f1.trans (Ex.new (o := .lst (gs.map V.ref)) nh)
    have h2 : (upd H3 h (.lst (gs.map V.ref))) h = some (.lst (gs.map V.ref)) := upd_same
    generalize upd H3 h (.lst (gs.map V.ref)) = H4 at f2 h2
    have hh2 : GfH H4 h gs Gs := ⟨h2, hA.len, (hA.up f2).tup⟩
    walk_at "s"; walk_at "ks"
    refine k_shown hh2.gfl hgd (by omega) ?_
    rw [hJ]
    walk_at "s"; walk_at "ks"
    refine c_str_str ?_
    walk_at "ks"
    refine ⟨fun hb => Bool.noConfusion hb, fun _ => ?_⟩
    walk_at "ks"
    refine r_neL rfl ?_
    walk_at "ks"
    rw [decide_eq_true rfl]
    refine ⟨fun hb => Bool.noConfusion hb, fun _ => ?_⟩
    walk_at "ks"
    refine r_neS (dp_gifts hh2.gfl) (dp_gifts (hA.up f2).gfl) (sh_gifts Gs) ?_
    walk_at "ks"
    refine ⟨fun hb => Bool.noConfusion hb, fun _ => ?_⟩
    rw [← hJ]
    walk_at "s"; walk_at "ks"
    refine k_read hgd (by omega) fun F fs H5 e45 nF hF => ?_
    have f3 := f2.trans e45
    have h3 := e45 _ _ h2
    have hFh : F ≠ h := (ne_of_none h2 nF).symm
    walk_at "s"; walk_at "ks"
    refine k_Lalike hF (hA.up f3).gfl (by omega) ?_
    walk_at "ks"
    refine ⟨fun hb => Bool.noConfusion hb, fun _ => ?_⟩
    walk_at "s"; walk_at "ks"
    refine ⟨tyl (sq_of h3), ?_⟩
    walk_at "ks"
    refine ⟨(by show 3 ≤ 100000; decide), fun t nt => ?_⟩
    have f4 := f3.trans (Ex.new (o := .tup [V.int 0, V.int 1, V.int 1]) nt)
    have h4 := at_up (o := .tup [V.int 0, V.int 1, V.int 1]) h3 nt
    have hF4 := hF.up (Ex.new (o := .tup [V.int 0, V.int 1, V.int 1]) nt)
    generalize upd H5 t (.tup [V.int 0, V.int 1, V.int 1]) = H6 at f4 h4 hF4
    have hgl := hA.len
    walk_at "ks"
    refine m_append h4 (by rw [List.length_map]; omega) ?_
    have f5 := Ex.mut (o := .lst (gs.map V.ref ++ [V.ref t])) f4 nh0
    have hF5 := hF4.mut (zs := gs.map V.ref ++ [V.ref t]) h4 hFh
    generalize upd H6 h (.lst (gs.map V.ref ++ [V.ref t])) = H7 at f5 hF5
    clear hF4 h4 f4 hF h3 e45 nF nt f3 hh2 h2
    -- the last gift alone
    have hgd1 : ∀ z ∈ Gs.drop (gs.length - 1), Pn.Gd z := fun z hz => hgd z (List.mem_of_mem_drop hz)
    have hlen1 : (Gs.drop (gs.length - 1)).length ≤ 1 := by rw [List.length_drop]; omega
    have hsl1 := Pn.sum_len hgd1
    have hcut : ∀ (H' : Hp) (P : V → Hp → Prop), Ex H2 H' → (∀ s, H' s = none → Ex H' (upd H' s (.lst ((gs.drop (gs.length - 1)).map V.ref))) → GfH (upd H' s (.lst ((gs.drop (gs.length - 1)).map V.ref))) s (gs.drop (gs.length - 1)) (Gs.drop (gs.length - 1)) → P (.ref s) (upd H' s (.lst ((gs.drop (gs.length - 1)).map V.ref)))) → Kc (rSlL K (.ref A) (some (-1)) none) H' P := fun H' P e hp => r_slL (sq_of (hA.up e).lst) fun s ns => by
      rw [cut_last, List.length_map, ← List.map_drop]
      have x := Ex.new (o := .lst ((gs.drop (gs.length - 1)).map V.ref)) ns
      exact hp s ns x (((hA.up e).up x).drop upd_same)
    walk_at "s"
    refine k_m1 ?_
    walk_at "ks"
    refine ⟨⟨_, rfl⟩, ?_⟩
    walk_at "ks"
    refine hcut _ _ f5 fun s1 ns1 x1 g1 => ?_
    generalize upd H7 s1 (.lst ((gs.drop (gs.length - 1)).map V.ref)) = H8 at x1 g1
    have f8 := f5.trans x1
    have hF8 := hF5.up x1
    walk_at "ks"
    refine k_Lwords g1.gfl hgd1 (by omega) fun w2 nw2 => ?_
    refine m_join (ys := (Gs.drop (gs.length - 1)).map Pn.wl) lit_sp (sq_of upd_same) (by rw [List.length_map]; show _ + _ * 1 ≤ _; omega) ?_
    have x9 := Ex.new (o := .lst ((((Gs.drop (gs.length - 1)).map Pn.wl).map SX.S).map V.str)) nw2
    generalize upd H8 w2 (.lst ((((Gs.drop (gs.length - 1)).map Pn.wl).map SX.S).map V.str)) = H9 at x9
    have f9 := f8.trans x9
    have hF9 := hF8.up x9
    clear g1 x1 x9 hF8 f8 hF5 f5
    walk_at "s"; walk_at "ks"
    refine hcut _ _ f9 fun s2 ns2 x1 g1 => ?_
    generalize upd H9 s2 (.lst ((gs.drop (gs.length - 1)).map V.ref)) = H10 at x1 g1
    have f10 := f9.trans x1
    have hF10 := hF9.up x1
    walk_at "ks"
    refine k_shown g1.gfl hgd1 (by omega) ?_
    walk_at "ks"
    refine r_neL rfl ?_
    walk_at "ks"
    rw [decide_eq_true rfl]
    refine ⟨fun hb => Bool.noConfusion hb, fun _ => ?_⟩
    walk_at "ks"
    refine k_read hgd1 (by omega) fun F2 fs2 H11 x2 _ hF2 => ?_
    have f11 := f10.trans x2
    have hF11 := hF10.up x2
    walk_at "ks"
    refine hcut _ _ f11 fun s3 ns3 x3 g3 => ?_
    generalize upd H11 s3 (.lst ((gs.drop (gs.length - 1)).map V.ref)) = H12 at x3 g3
    have f12 := f11.trans x3
    have hF12 := hF11.up x3
    walk_at "ks"
    refine k_Lalike (hF2.up x3) g3.gfl (by omega) ?_
    walk_at "ks"
    refine ⟨fun hb => Bool.noConfusion hb, fun _ => ?_⟩
    clear g3 x3 hF11 f11 x2 hF2 hF10 f10 g1 x1 hF9 f9
    walk_at "s"; walk_at "ks"
    refine k_read hgd (by omega) fun W ws H13 x4 nW hW => ?_
    have f13 := f12.trans x4
    have hF13 := hF12.up x4
    have nW0 : H2 W = none := fresh_back f12 nW
    have hFW : F ≠ W := ne_of_none hF12.lst nW
    walk_at "s"; walk_at "ks"
    refine ⟨tyl (sq_of hW.lst), ?_⟩
    walk_at "ks"
    refine ⟨(by show 3 ≤ 100000; decide), fun t2 nt2 => ?_⟩
    have x5 := Ex.new (o := .tup [V.int 2, V.int 3, V.int 4]) nt2
    have t5 : (upd H13 t2 (.tup [V.int 2, V.int 3, V.int 4])) t2 = some (.tup [V.int 2, V.int 3, V.int 4]) := upd_same
    have hW5 := hW.up x5
    generalize upd H13 t2 (.tup [V.int 2, V.int 3, V.int 4]) = H14 at x5 t5 hW5
    have f14 := f13.trans x5
    have hF14 := hF13.up x5
    walk_at "ks"
    refine m_append hW5.lst (by rw [List.length_map, hW5.len]; omega) ?_
    have f15 := Ex.mut (o := .lst (ws.map V.ref ++ [V.ref t2])) f14 nW0
    have hF15 := hF14.mut (zs := ws.map V.ref ++ [V.ref t2]) hW5.lst hFW
    have tW : ∀ g u, H14 g = some (.tup u) → (upd H14 W (.lst (ws.map V.ref ++ [V.ref t2]))) g = some (.tup u) := fun g u hg => by
      rw [upd_ne fun e => by subst e; rw [hW5.lst] at hg; cases hg]
      exact hg
    have hW15 : GfH (upd H14 W (.lst (ws.map V.ref ++ [V.ref t2]))) W (ws ++ [t2]) (Gs ++ [(2, 3, 4)]) := hW5.snoc (z := (2, 3, 4)) (by rw [upd_same, List.map_append]; rfl) tW (tW _ _ t5)
    generalize upd H14 W (.lst (ws.map V.ref ++ [V.ref t2])) = H15 at f15 hF15 hW15
    clear tW
    walk_at "s"; walk_at "ks"
    refine r_eqL rfl ?_
    walk_at "ks"
    rw [decide_eq_true rfl]
    refine ⟨fun _ => ?_, fun hb => Bool.noConfusion hb⟩
    walk_at "ks"
    refine k_Lalike hF15 (hA.up f15).gfl (by omega) ?_
    walk_at "ks"
    refine ⟨fun _ => ?_, fun hb => Bool.noConfusion hb⟩
    walk_at "ks"
    refine ⟨(by show 3 ≤ 100000; decide), fun t3 nt3 => ?_⟩
    have x6 := Ex.new (o := .tup [V.int 2, V.int 3, V.int 4]) nt3
    have t6 : (upd H15 t3 (.tup [V.int 2, V.int 3, V.int 4])) t3 = some (.tup [V.int 2, V.int 3, V.int 4]) := upd_same
    generalize upd H15 t3 (.tup [V.int 2, V.int 3, V.int 4]) = H16 at x6 t6
    have f16 := f15.trans x6
    have hW16 := hW15.up x6
    walk_at "ks"
    refine ⟨(by show 1 ≤ 100000; decide), fun u nu => ?_⟩
    have x7 := Ex.new (o := .lst [V.ref t3]) nu
    have u7 : (upd H16 u (.lst [V.ref t3])) u = some (.lst [V.ref t3]) := upd_same
    have t7 := x7 _ _ t6
    generalize upd H16 u (.lst [V.ref t3]) = H17 at x7 u7 t7
    have f17 := f16.trans x7
    have hW17 := hW16.up x7
    refine r_cat (hA.up f17).lst u7 (by rw [List.length_map]; show _ + 1 ≤ _; omega) fun v nv => ?_
    have x8 := Ex.new (o := .lst (gs.map V.ref ++ [V.ref t3])) nv
    have hv : GfH (upd H17 v (.lst (gs.map V.ref ++ [V.ref t3]))) v (gs ++ [t3]) (Gs ++ [(2, 3, 4)]) := (hA.up f17).snoc (z := (2, 3, 4)) (by rw [upd_same, List.map_append]; rfl) (fun g u hg => x8 _ _ hg) (x8 _ _ t7)
    walk_at "ks"
    exact k_Lalike (hW17.up x8) hv.gfl (by rw [List.length_append]; show _ + 1 ≤ _; omega) fun H9 _ => q H9
end
theorem all_mk {l : PySem.W.OpenLaw} {w : World} {K : PySem.W.Frag} {h : Heap} {mg : Str → Option Value} {fa f1 f2 f3 f4 f5 f6 f7 f8 f9 : Addr} (X : K.In h) (G : h.Ns mainGlobals mg) (hfa : mg "law" = some (.ref fa))
    {od1 an1 od2 an2 od3 an3 od4 an4 od5 an5 od6 an6 od7 an7 od8 an8 od9 an9 : Option Addr} {sl1 sl2 sl3 sl4 sl5 sl6 sl7 sl8 sl9 : Array (Option Value)} {oc1 kV1 dc1 pm1 cd1 ct1 oc2 kV2 dc2 pm2 cd2 ct2 oc3 kV3 dc3 pm3 cd3 ct3 oc4 kV4 dc4 pm4 cd4 ct4 oc5 kV5 dc5 pm5 cd5 ct5 oc6 kV6 dc6 pm6 cd6 ct6 oc7 kV7 dc7 pm7 cd7 ct7 oc8 kV8 dc8 pm8 cd8 ct8 oc9 kV9 dc9 pm9 cd9 ct9 : Value} {tk : Tok}
    (a1 : PySem.W.nsIn K mainGlobals "_law_whole" = some (some (.ref f1))) (l1 : K.lookup f1 = some ⟨oc1, od1, .func (PySem.W.fnOf "_law_whole" "_law_whole" (defArgs s_Lwhole) (defBody s_Lwhole) (defScope s_Lwhole) .none kV1 dc1 pm1 an1 cd1 ct1), sl1⟩) (c1 : PySem.W.codeIn K cd1 "_law_whole" = true) (k1 : PySem.W.keepIn K (.ref f1) = true)
    (a2 : PySem.W.nsIn K mainGlobals "_law_alike" = some (some (.ref f2))) (l2 : K.lookup f2 = some ⟨oc2, od2, .func (PySem.W.fnOf "_law_alike" "_law_alike" (defArgs s_Lalike) (defBody s_Lalike) (defScope s_Lalike) .none kV2 dc2 pm2 an2 cd2 ct2), sl2⟩) (c2 : PySem.W.codeIn K cd2 "_law_alike" = true) (k2 : PySem.W.keepIn K (.ref f2) = true)
    (a3 : PySem.W.nsIn K mainGlobals "_law_gift" = some (some (.ref f3))) (l3 : K.lookup f3 = some ⟨oc3, od3, .func (PySem.W.fnOf "_law_gift" "_law_gift" (defArgs s_Lgift) (defBody s_Lgift) (defScope s_Lgift) .none kV3 dc3 pm3 an3 cd3 ct3), sl3⟩) (c3 : PySem.W.codeIn K cd3 "_law_gift" = true) (k3 : PySem.W.keepIn K (.ref f3) = true)
    (a4 : PySem.W.nsIn K mainGlobals "_law_words" = some (some (.ref f4))) (l4 : K.lookup f4 = some ⟨oc4, od4, .func (PySem.W.fnOf "_law_words" "_law_words" (defArgs s_Lwords) (defBody s_Lwords) (defScope s_Lwords) .none kV4 dc4 pm4 an4 cd4 ct4), sl4⟩) (c4 : PySem.W.codeIn K cd4 "_law_words" = true) (k4 : PySem.W.keepIn K (.ref f4) = true)
    (a5 : PySem.W.nsIn K mainGlobals "number_of" = some (some (.ref f5))) (l5 : K.lookup f5 = some ⟨oc5, od5, .func (PySem.W.fnOf "number_of" "number_of" (defArgs s_number_of) (defBody s_number_of) (defScope s_number_of) .none kV5 dc5 pm5 an5 cd5 ct5), sl5⟩) (c5 : PySem.W.codeIn K cd5 "number_of" = true) (k5 : PySem.W.keepIn K (.ref f5) = true)
    (a6 : PySem.W.nsIn K mainGlobals "gift_of" = some (some (.ref f6))) (l6 : K.lookup f6 = some ⟨oc6, od6, .func (PySem.W.fnOf "gift_of" "gift_of" (defArgs s_gift_of) (defBody s_gift_of) (defScope s_gift_of) .none kV6 dc6 pm6 an6 cd6 ct6), sl6⟩) (c6 : PySem.W.codeIn K cd6 "gift_of" = true) (k6 : PySem.W.keepIn K (.ref f6) = true)
    (a7 : PySem.W.nsIn K mainGlobals "read" = some (some (.ref f7))) (l7 : K.lookup f7 = some ⟨oc7, od7, .func (PySem.W.fnOf "read" "read" (defArgs s_read) (defBody s_read) (defScope s_read) .none kV7 dc7 pm7 an7 cd7 ct7), sl7⟩) (c7 : PySem.W.codeIn K cd7 "read" = true) (k7 : PySem.W.keepIn K (.ref f7) = true)
    (a8 : PySem.W.nsIn K mainGlobals "shown" = some (some (.ref f8))) (l8 : K.lookup f8 = some ⟨oc8, od8, .func (PySem.W.fnOf "shown" "shown" (defArgs s_shown) (defBody s_shown) (defScope s_shown) .none kV8 dc8 pm8 an8 cd8 ct8), sl8⟩) (c8 : PySem.W.codeIn K cd8 "shown" = true) (k8 : PySem.W.keepIn K (.ref f8) = true)
    (a9 : PySem.W.nsIn K mainGlobals "law" = some (some (.ref f9))) (l9 : K.lookup f9 = some ⟨oc9, od9, .func (PySem.W.fnOf "law" "law" (defArgs s_law) (defBody s_law) (defScope s_law) .none kV9 dc9 pm9 an9 cd9 ct9), sl9⟩) (c9 : PySem.W.codeIn K cd9 "law" = true) (k9 : PySem.W.keepIn K (.ref f9) = true)
    (z_bool : PySem.W.nsIn K mainGlobals "bool" = some none) (z_int : PySem.W.nsIn K mainGlobals "int" = some none) (z_isinstance : PySem.W.nsIn K mainGlobals "isinstance" = some none) (z_len : PySem.W.nsIn K mainGlobals "len" = some none) (z_list : PySem.W.nsIn K mainGlobals "list" = some none) (z_range : PySem.W.nsIn K mainGlobals "range" = some none) (z_str : PySem.W.nsIn K mainGlobals "str" = some none) (z_tuple : PySem.W.nsIn K mainGlobals "tuple" = some none)
    (eF : PySem.W.nsIn K mainGlobals "FIGURES" = some (some (.str (SX.S Pn.fig) tk)))
    : ∃ fd : FuncData, (∀ (s : Shared) (v : Value), BindsTo s fd ⟨[v], []⟩ [("_law_script", v)]) ∧ ∀ base : Heap, K.In base → base.Ns mainGlobals mg → FnOk l.prog w K mg base CX0 4 fa fd ["_law_script"] (spLaw K) := by
  have e := hfa.symm.trans (PySem.W.mg_of X G a9)
  cases e
  have B : Bl mg := ⟨PySem.W.mg_none_of X G z_bool, PySem.W.mg_none_of X G z_int, PySem.W.mg_none_of X G z_isinstance, PySem.W.mg_none_of X G z_len, PySem.W.mg_none_of X G z_list, PySem.W.mg_none_of X G z_range, PySem.W.mg_none_of X G z_str, PySem.W.mg_none_of X G z_tuple⟩
  have T : TxtF mg tk := ⟨PySem.W.mg_of X G eF⟩
  have F1 := fun_mk (st := s_Lwhole) l1 c1 k1
  have b1 := F1.binds (ps := ["_law_found"]) fun _ _ _ _ _ _ us hl => match us, hl with | [_], _ => rfl
  have F2 := fun_mk (st := s_Lalike) l2 c2 k2
  have b2 := F2.binds (ps := ["_law_found", "_law_due"]) fun _ _ _ _ _ _ us hl => match us, hl with | [_, _], _ => rfl
  have F3 := fun_mk (st := s_Lgift) l3 c3 k3
  have b3 := F3.binds (ps := ["_law_cell"]) fun _ _ _ _ _ _ us hl => match us, hl with | [_], _ => rfl
  have F4 := fun_mk (st := s_Lwords) l4 c4 k4
  have b4 := F4.binds (ps := ["_law_gifts"]) fun _ _ _ _ _ _ us hl => match us, hl with | [_], _ => rfl
  have F5 := fun_mk (st := s_number_of) l5 c5 k5
  have b5 := F5.binds (ps := ["figures", "most"]) fun _ _ _ _ _ _ us hl => match us, hl with | [_, _], _ => rfl
  have F6 := fun_mk (st := s_gift_of) l6 c6 k6
  have b6 := F6.binds (ps := ["word"]) fun _ _ _ _ _ _ us hl => match us, hl with | [_], _ => rfl
  have F7 := fun_mk (st := s_read) l7 c7 k7
  have b7 := F7.binds (ps := ["text"]) fun _ _ _ _ _ _ us hl => match us, hl with | [_], _ => rfl
  have F8 := fun_mk (st := s_shown) l8 c8 k8
  have b8 := F8.binds (ps := ["gifts"]) fun _ _ _ _ _ _ us hl => match us, hl with | [_], _ => rfl
  have F9 := fun_mk (st := s_law) l9 c9 k9
  refine ⟨PySem.W.fnOf "law" "law" (defArgs s_law) (defBody s_law) (defScope s_law) .none kV9 dc9 pm9 an9 cd9 ct9, fun s v => .of_eq rfl, fun base _ _ => ?_⟩
  have c_Lwhole : Cl l.prog w K mg base CX0 1 "_law_whole" f1 _ ["_law_found"] (spLwhole K) := ⟨ok_Lwhole T F1 B, PySem.W.mg_of X G a1, k1, b1⟩
  have c_Lalike : Cl l.prog w K mg base CX0 2 "_law_alike" f2 _ ["_law_found", "_law_due"] (spLalike K) := ⟨ok_Lalike T F2 B c_Lwhole, PySem.W.mg_of X G a2, k2, b2⟩
  have c_Lgift : Cl l.prog w K mg base CX0 1 "_law_gift" f3 _ ["_law_cell"] (spLgift K) := ⟨ok_Lgift T F3 B, PySem.W.mg_of X G a3, k3, b3⟩
  have c_Lwords : Cl l.prog w K mg base CX0 1 "_law_words" f4 _ ["_law_gifts"] (spLwords K) := ⟨ok_Lwords T F4 B, PySem.W.mg_of X G a4, k4, b4⟩
  have c_number_of : Cl l.prog w K mg base CX0 1 "number_of" f5 _ ["figures", "most"] (spnumber_of K) := ⟨ok_number_of T F5 B, PySem.W.mg_of X G a5, k5, b5⟩
  have c_gift_of : Cl l.prog w K mg base CX0 2 "gift_of" f6 _ ["word"] (spgift_of K) := ⟨ok_gift_of T F6 B c_number_of, PySem.W.mg_of X G a6, k6, b6⟩
  have c_read : Cl l.prog w K mg base CX0 3 "read" f7 _ ["text"] (spread K) := ⟨ok_read T F7 B c_gift_of, PySem.W.mg_of X G a7, k7, b7⟩
  have c_shown : Cl l.prog w K mg base CX0 1 "shown" f8 _ ["gifts"] (spshown K) := ⟨ok_shown T F8 B, PySem.W.mg_of X G a8, k8, b8⟩
  exact ok_law T F9 B c_Lalike c_Lgift c_Lwords c_read c_shown

end K09
open PySem PySem.W PyProof.Rows
set_option maxRecDepth 100000 in
set_option maxHeartbeats 0 in
theorem PySem.Challenge.cw_pursewise_k09_notes_shown_read_holds : PySem.Challenge.rw_pursewise_k09_notes_shown_read.Holds := by
  w_on; o_law; k_head; (case hw => w_witness2)
  k_fill
  refine L2.walk_ofB (l := PySem.Challenge.rw_pursewise_k09_notes_shown_read) (n := 63) (k := 4) (x := "_law_script") (CX := fun _ => L2.CX0) (sp := fun w => K09.spLaw _) rfl (by decide) rfl ⟨rfl, by decide, by decide⟩ (fun w h Y => PySem.W.kIn_of Y) ?F (fun _ _ a ns hl hb _ hS => ⟨a, ns, rfl, hS, hl, hb, fun _ => rfl⟩) (fun _ _ _ _ _ h => h)
  case F =>
    intro w mg fa h KX G hmg
    refine' K09.all_mk KX G hmg ?a1 ?l1 ?c1 ?k1 ?a2 ?l2 ?c2 ?k2 ?a3 ?l3 ?c3 ?k3 ?a4 ?l4 ?c4 ?k4 ?a5 ?l5 ?c5 ?k5 ?a6 ?l6 ?c6 ?k6 ?a7 ?l7 ?c7 ?k7 ?a8 ?l8 ?c8 ?k8 ?a9 ?l9 ?c9 ?k9 ?z_bool ?z_int ?z_isinstance ?z_len ?z_list ?z_range ?z_str ?z_tuple ?eF
    (case a1 => k_is)
    (case l1 => k_is)
    (case c1 => k_is)
    (case k1 => k_is)
    (case a2 => k_is)
    (case l2 => k_is)
    (case c2 => k_is)
    (case k2 => k_is)
    (case a3 => k_is)
    (case l3 => k_is)
    (case c3 => k_is)
    (case k3 => k_is)
    (case a4 => k_is)
    (case l4 => k_is)
    (case c4 => k_is)
    (case k4 => k_is)
    (case a5 => k_is)
    (case l5 => k_is)
    (case c5 => k_is)
    (case k5 => k_is)
    (case a6 => k_is)
    (case l6 => k_is)
    (case c6 => k_is)
    (case k6 => k_is)
    (case a7 => k_is)
    (case l7 => k_is)
    (case c7 => k_is)
    (case k7 => k_is)
    (case a8 => k_is)
    (case l8 => k_is)
    (case c8 => k_is)
    (case k8 => k_is)
    (case a9 => k_is)
    (case l9 => k_is)
    (case c9 => k_is)
    (case k9 => k_is)
    (case z_bool => k_is)
    (case z_int => k_is)
    (case z_isinstance => k_is)
    (case z_len => k_is)
    (case z_list => k_is)
    (case z_range => k_is)
    (case z_str => k_is)
    (case z_tuple => k_is)
    (case eF => first | k_is | rfl)

