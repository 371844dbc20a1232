import PyProof.Rows.All
import Wide.All
import OpenK.AllK
import Wide.FinOn
import HandS.ForMost
import HandS.ForExc
import HandS.Evl
import HandS.EndBits
import HandS.WideBits
import HandS.SortKw
import HandS.SortInts
import HandS.IsInst
import HandS.Conv
import HandS.Codes
import HandS.Style
import HandS.Zip
import HandS.More
import HandS.ExcIs
import HandS.TryMany
import HandS.RevTup
import HandS.Rev
import PySem.Challenge.RW_pursewise_k06_gap_and_dues
set_option Elab.async false
set_option linter.all false
set_option maxRecDepth 100000
set_option maxHeartbeats 4000000
/-! Px: a small calculus of our own over HandS: what a reading does from a heap that may have grown (Kc), told by the smallest heap that matters. -/
namespace Px
open PySem PySem.Spec PyProof.Rows L2 Evl

/-! ### heaps -/
theorem Ex.updm {H H1 : Hp} {l : Addr} {o : HO} (e : Ex H H1) : Ex (upd H l o) (upd H1 l o) := fun a u h => by
  by_cases ha : a = l
  · subst ha
    rw [upd_same] at h ⊢
    exact h
  · rw [upd_ne ha] at h ⊢
    exact e a u h
theorem Ex.put {H H1 : Hp} {l : Addr} {o : HO} (e : Ex H H1) (h : H1 l = some o) : Ex (upd H l o) H1 := fun a u q => by
  by_cases ha : a = l
  · subst ha
    rw [upd_same] at q
    rw [h]
    exact q
  · rw [upd_ne ha] at q
    exact e a u q
theorem sq_up {K : PySem.W.Frag} {H : Hp} {a p : Addr} {xs : List V} {o : HO} (h : SqL K H a xs) (hp : H p = none) : SqL K (upd H p o) a xs := ex_l (Ex.new hp) h
/-- an object that stands, behind a new one at p -/
theorem at_up {H : Hp} {a p : Addr} {o u : HO} (h : H a = some u) (hp : H p = none) : upd H p o a = some u := by
  rw [upd_ne (ne_of_none h hp)]
  exact h
theorem none_of_up {H : Hp} {q p : Addr} {o : HO} (h : upd H p o q = none) : H q = none ∧ q ≠ p := by
  by_cases e : q = p
  · subst e
    rw [upd_same] at h
    cases h
  · rw [upd_ne e] at h
    exact ⟨h, e⟩

/-! ### a def of the module as its callers use it -/
structure Cl (P : Program) (w : World) (K : PySem.W.Frag) (mg : Str → Option Value) (base : Heap) (CX : CXT) (k : Nat) (x : Str) (f : Addr) (fd : FuncData) (ps : List Str) (sp : Sp) : Prop where
  ok : FnOk P w K mg base CX k f fd ps sp
  gl : mg x = some (.ref f)
  kp : PySem.W.keepIn K (.ref f) = true
  bd : Binds K fd ps []

/-! ### sizes of whole numbers: below 2 ^ n in size -/
def Bd (n : Nat) (i : Int) : Prop := i.natAbs < 2 ^ n
theorem Bd.mono {n m : Nat} {i : Int} (h : Bd n i) (k : n ≤ m) : Bd m i := Nat.lt_of_lt_of_le h (Nat.pow_le_pow_right (by decide) k)
theorem Bd.add {n m : Nat} {i j : Int} (h : Bd n i) (k : Bd m j) : Bd (max n m + 1) (i + j) := by
  have h1 : i.natAbs < 2 ^ max n m := h.mono (Nat.le_max_left _ _)
  have h2 : j.natAbs < 2 ^ max n m := k.mono (Nat.le_max_right _ _)
  unfold Bd
  rw [Nat.pow_succ]
  omega
theorem Bd.sub {n m : Nat} {i j : Int} (h : Bd n i) (k : Bd m j) : Bd (max n m + 1) (i - j) := by
  have h1 : i.natAbs < 2 ^ max n m := h.mono (Nat.le_max_left _ _)
  have h2 : j.natAbs < 2 ^ max n m := k.mono (Nat.le_max_right _ _)
  unfold Bd
  rw [Nat.pow_succ]
  omega
theorem Bd.mul {n m : Nat} {i j : Int} (h : Bd n i) (k : Bd m j) : Bd (n + m) (i * j) := by
  unfold Bd at *
  rw [Int.natAbs_mul, Nat.pow_add]
  exact Nat.mul_lt_mul'' h k
theorem Bd.mod {n : Nat} {i j : Int} (k : Bd n j) (h : 0 < j) : Bd n (i % j) := by
  have h1 := Int.emod_nonneg i (show j ≠ 0 by omega)
  have h2 := Int.emod_lt_of_pos i h
  unfold Bd at k ⊢
  omega
theorem Bd.div {n : Nat} {i j : Int} (h : Bd n i) : Bd n (i / j) := Nat.lt_of_le_of_lt (Int.natAbs_ediv_le_natAbs i j) h
theorem Bd.mulX {n m : Nat} {i j : Int} (h : Bd n i) (k : Bd m j) (hl : n + m ≤ 134217728) : CMulX i j := mulx_ok h k hl
theorem Bd.bits {n : Nat} {i : Int} (h : Builtin.Int.intBits i ≤ n) : Bd n i := by
  unfold Bd
  unfold Builtin.Int.intBits at h
  split at h
  · rename_i z
    have z2 : i = 0 := by simpa using z
    rw [z2]
    exact Nat.pow_pos (by decide)
  · have h2 : i.natAbs < 2 ^ (i.natAbs.log2 + 1) := Nat.lt_log2_self
    exact Nat.lt_of_lt_of_le h2 (Nat.pow_le_pow_right (by decide) h)
theorem Bd.le {n : Nat} {i j : Int} (h : i.natAbs ≤ j.natAbs) (k : Bd n j) : Bd n i := Nat.lt_of_le_of_lt h k
theorem bd_lit (i : Int) : Bd (i.natAbs.log2 + 1) i := Nat.lt_log2_self
theorem Bd.ite {n : Nat} {c : Prop} [Decidable c] {i j : Int} (h : Bd n i) (k : Bd n j) : Bd n (if c then i else j) := by
  split
  · exact h
  · exact k

/-! ### rules that name the written part K by itself (so that a comprehension's element can bear them) -/
section
variable {X : Cx} {K : PySem.W.Frag}
theorem ixl (h : X.K = K := by rfl) : IxR X (rIxL K) := h ▸ ix_list
theorem ixt (h : X.K = K := by rfl) : IxR X (rIxT K) := h ▸ ix_tup
theorem sll (h : X.K = K := by rfl) : SlR X (rSlL K) := h ▸ sl_list
theorem slt (h : X.K = K := by rfl) : SlR X (rSlT K) := h ▸ sl_tup
def rLn (K : PySem.W.Frag) : List V → Hp → VK → Prop := fun xs H Q => ∃ p ys, xs = [.ref p] ∧ (SqL K H p ys ∨ SqT K H p ys) ∧ Q (.int ys.length) H
theorem bLen (h : X.K = K := by rfl) : CallR X (.builtin "len") (rLn K) := h ▸ call_len_seq
def rLs (K : PySem.W.Frag) : List V → Hp → VK → Prop := fun xs H Q => ∃ p ys, xs = [.ref p] ∧ (SqL K H p ys ∨ SqT K H p ys) ∧ ∀ l, H l = none → Q (.ref l) (upd H l (.lst ys))
theorem bList (h : X.K = K := by rfl) : CallR X (.type "list") (rLs K) := h ▸ call_list_of
theorem bSum (hc : X.calm = true) (h : X.K = K := by rfl) : CallR X (.builtin "sum") (rSum K) := h ▸ cr_sum hc
theorem bMin (hc : X.calm = true) (h : X.K = K := by rfl) : CallR X (.builtin "min") (rMin K) := h ▸ cr_min hc
theorem bMax (hc : X.calm = true) (h : X.K = K := by rfl) : CallR X (.builtin "max") (rMax K) := h ▸ cr_max hc
theorem bIsi (h : X.K = K := by rfl) : CallR X (.builtin "isinstance") (rIsi K) := h ▸ call_isi
theorem bSrt (h : X.K = K := by rfl) : CallR X (.builtin "sorted") (rSortedI K) := h ▸ cr_sortedI
theorem bSrtR (h : X.K = K := by rfl) : CallRK X (.builtin "sorted") [Str.ofString "reverse"] (rSortedKw K true [.bl true]) := h ▸ cr_sortedRev
theorem oEqD (hu : X.A.units + 64 < cLine) (h : X.K = K := by rfl) : OpR X (compareOp .Eq) (rEqD K) := h ▸ op_eqD hu
theorem oNeD (hu : X.A.units + 64 < cLine) (h : X.K = K := by rfl) : OpR X (compareOp .NotEq) (rNeD K) := h ▸ op_neD hu
theorem piL {tg l : Expr} {tl : TE} (hl : PE X l tl) (h : X.K = K := by rfl) : PI X tg l (iList K tl) := h ▸ pi_list hl
theorem piT {tg l : Expr} {tl : TE} (hl : PE X l tl) (h : X.K = K := by rfl) : PI X tg l (iTup K tl) := h ▸ pi_tup hl
theorem piZ {e e2 : Expr} {ta : TA} {p pos tpos : Pos} {elts : List Expr} {kk : Nat} (hg : Gl X "zip") (hm : X.mg "zip" = none) (ha : PA X [e, e2] ta) (h : X.K = K := by rfl)
    (hs : starEach [e, e2] X.env = (false, eval e X.env) :: starEach [e2] X.env := by rfl) (hpl : (backTo pos (starEach [e2] X.env)).any (·.1) = false := by rfl) :
    PI X (.Tuple elts kk tpos) (.Call (.Name "zip" p) [e, e2] [] pos) (iZip K ta) := h ▸ pi_zip hg hm ha hs hpl
theorem peBm {o e : Expr} {es : List Expr} {to : TE} {t : TA} {name : Str} {apos cpos : Pos} {T id : String} {r : V → List V → Hp → VK → Prop} (pa : PlainAttrs T) (slot : Slot T name id) (hty : typeOf (.builtin id) = pure (.type "method_descriptor")) (hm : MtR X id r) (ho : PE X o to) (ha : PA X (e :: es) t) (h : X.K = K := by rfl)
    (hbase : attributeBase o name X.env (eval o X.env) = eval o X.env := by rfl) (hline : (apos.endLine == cpos.line) = true := by rfl)
    (hs : starEach (e :: es) X.env = (false, eval e X.env) :: starEach es X.env := by rfl)
    (hfew : ((((backTo cpos (starEach (e :: es) X.env)).all fun x => !x.1) && (backToKw cpos (keywordEach [] X.env)).all fun x => x.1.isSome) && decide (((e :: es).length + ([] : List Keyword).length + if ([] : List Keyword).isEmpty then 0 else 1) < 30)) = true := by rfl)
    (hpl : (backTo cpos (starEach es X.env)).any (·.1) = false := by rfl) : PE X (.Call (.Attribute o name apos) (e :: es) [] cpos) (tBM K T r to t) := h ▸ pe_bm pa slot hty hm ho ha hbase hfew hline hs hpl
theorem peBm0 {o : Expr} {to : TE} {name : Str} {apos cpos : Pos} {T id : String} {r : V → List V → Hp → VK → Prop} (pa : PlainAttrs T) (slot : Slot T name id) (hty : typeOf (.builtin id) = pure (.type "method_descriptor")) (hm : MtR X id r) (ho : PE X o to) (h : X.K = K := by rfl)
    (hbase : attributeBase o name X.env (eval o X.env) = eval o X.env := by rfl) (hline : (apos.endLine == cpos.line) = true := by rfl) : PE X (.Call (.Attribute o name apos) [] [] cpos) (tBM0 K T r to) := h ▸ pe_bm0 pa slot hty hm ho hbase hline
theorem pgT {es : List Expr} {k : Nat} {pos : Pos} {t : TGs} {n : Nat} (hc : X.calm = true) (hh : PGs X es t) (h : X.K = K := by rfl)
    (hn : (assignEach es X.env).length = n := by rfl) (hst : (assignEach es X.env).findIdx? (·.1) = none := by rfl) : PG X (.Tuple es k pos) (gTup K n t) := h ▸ pg_tup hc hh hn hst
end

/-! ### the calculus -/
def Kc {α : Type} (m : Hp → (α → Hp → Prop) → Prop) (H : Hp) (P : α → Hp → Prop) : Prop := ∀ H1, Ex H H1 → ∀ Q : α → Hp → Prop, (∀ v H2, (∃ Hx, Ex Hx H2 ∧ P v Hx) → Q v H2) → m H1 Q
theorem kc_pure {α : Type} {v : α} {H : Hp} {P : α → Hp → Prop} (h : P v H) : Kc (fun H Q => Q v H) H P := fun H1 e _ k => k v H1 ⟨H, e, h⟩
theorem kc_bind {α β : Type} {m : Hp → (α → Hp → Prop) → Prop} {f : α → Hp → (β → Hp → Prop) → Prop} {H : Hp} {P : β → Hp → Prop} (h : Kc m H fun v Hx => Kc (f v) Hx P) : Kc (fun H Q => m H fun v H1 => f v H1 Q) H P := fun H1 e Q k =>
  h H1 e _ fun v H2 ⟨_, ex, hf⟩ => hf H2 ex Q k
theorem Kc.mono {α : Type} {m : Hp → (α → Hp → Prop) → Prop} {H H' : Hp} {P : α → Hp → Prop} (e : Ex H H') (h : Kc m H P) : Kc m H' P := fun H1 a Q k => h H1 (e.trans a) Q k
theorem Kc.imp {α : Type} {m : Hp → (α → Hp → Prop) → Prop} {H : Hp} {P P' : α → Hp → Prop} (h : Kc m H P) (i : ∀ v Hx, P v Hx → P' v Hx) : Kc m H P' := fun H1 a Q k => h H1 a Q fun v H2 ⟨Hx, ex, p⟩ => k v H2 ⟨Hx, ex, i v Hx p⟩
abbrev EvK (te : TE) (σ : L2.St) (H : Hp) (P : V → Hp → Prop) : Prop := Kc (te σ) H P
abbrev EvAK (ta : TA) (σ : L2.St) (H : Hp) (P : List V → Hp → Prop) : Prop := Kc (ta σ) H P
abbrev EvTK (tt : TT) (σ : L2.St) (H : Hp) (P : Bool → Hp → Prop) : Prop := Kc (tt σ) H P
abbrev EvOK (to : TO) (σ : L2.St) (H : Hp) (P : Option Int → Hp → Prop) : Prop := Kc (to σ) H P
abbrev RK (r : R2) (x y : V) (H : Hp) (P : V → Hp → Prop) : Prop := Kc (r x y) H P
abbrev CK (r : List V → Hp → VK → Prop) (vs : List V) (H : Hp) (P : V → Hp → Prop) : Prop := Kc (r vs) H P
abbrev MK (r : V → List V → Hp → VK → Prop) (x : V) (vs : List V) (H : Hp) (P : V → Hp → Prop) : Prop := Kc (r x vs) H P
def SpK (sp : Sp) (vs : List V) (H : Hp) (P : V → Hp → Prop) : Prop := ∀ E : XK, Kc (fun H Q => sp vs H Q E) H P
def Go (t : TS) (D : Ends) (σ : L2.St) (H : Hp) : Prop := ∀ H1, Ex H H1 → t D σ H1
/-- what is wished of a value at a heap that may have grown -/
def KQ (Q : VK) (v : V) (Hx : Hp) : Prop := ∀ H1, Ex Hx H1 → Q v H1
theorem KQ.up {Q : VK} {v : V} {H H' : Hp} (h : KQ Q v H) (e : Ex H H') : KQ Q v H' := fun H1 a => h H1 (e.trans a)
section
variable {K : PySem.W.Frag} {σ : L2.St} {H H' : Hp} {ta tb tc te tx : TE} {t u : TT} {x y z v : V} {r r' : R2} {P : V → Hp → Prop} {D : Ends}

/-! ### expressions -/
theorem k_var {i : Nat} (h : σ[i]? = some (some v)) (hp : P v H) : EvK (tVar i) σ H P := fun H1 e _ k => ⟨v, h, k v H1 ⟨H, e, hp⟩⟩
theorem k_c (hp : P v H) : EvK (tC v) σ H P := kc_pure hp
theorem k_op (h : EvK ta σ H fun x Hx => EvK tb σ Hx fun y Hy => RK r x y Hy P) : EvK (tOp r ta tb) σ H P := kc_bind (f := fun x H1 Q => tb σ H1 fun y H2 => r x y H2 Q) (h.imp fun _ _ h2 => kc_bind h2)
theorem k_un {ru : V → Hp → VK → Prop} (h : EvK ta σ H fun x Hx => Kc (ru x) Hx P) : EvK (tUn ru ta) σ H P := kc_bind (f := fun x H1 Q => ru x H1 Q) h
theorem k_cb {rc : List V → Hp → VK → Prop} {tl : TA} (h : EvAK tl σ H fun vs Hx => CK rc vs Hx P) : EvK (tCB rc tl) σ H P := kc_bind (f := fun vs H1 Q => rc vs H1 Q) h
theorem k_ckw {rc : List V → List V → Hp → VK → Prop} {tl tk : TA} (h : EvAK tl σ H fun vs Hx => EvAK tk σ Hx fun zs Hz => Kc (rc vs zs) Hz P) : EvK (tCKw rc tl tk) σ H P := kc_bind (f := fun vs H1 Q => tk σ H1 fun zs H2 => rc vs zs H2 Q) (h.imp fun _ _ h2 => kc_bind h2)
theorem k_call {sp : Sp} {dvs : List V} {E : XK} {tl : TA} (h : EvAK tl σ H fun vs Hx => SpK sp (vs ++ dvs) Hx P) : EvK (tCall sp dvs E tl) σ H P := kc_bind (f := fun vs H1 Q => sp (vs ++ dvs) H1 Q E) (h.imp fun _ _ h2 => h2 E)
theorem k_nil {PA : List V → Hp → Prop} (h : PA [] H) : EvAK tNil σ H PA := kc_pure h
theorem k_cons {tr : TA} {PA : List V → Hp → Prop} (h : EvK ta σ H fun x Hx => EvAK tr σ Hx fun vs Hy => PA (x :: vs) Hy) : EvAK (tCons ta tr) σ H PA :=
  kc_bind (f := fun x H1 Q => tr σ H1 fun xs H2 => Q (x :: xs) H2) (h.imp fun x _ h2 => kc_bind (f := fun xs H2 Q => Q (x :: xs) H2) (h2.imp fun _ _ h3 => kc_pure h3))
theorem k_tup {tl : TA} (h : EvAK tl σ H fun vs Hx => vs.length ≤ 100000 ∧ ∀ p, Hx p = none → P (.ref p) (upd Hx p (.tup vs))) : EvK (tTup tl) σ H P :=
  fun H1 e Q k => h H1 e _ fun vs H2 ⟨Hx, ex, hl, hp⟩ => ⟨sz_of hl, fun p np => k _ _ ⟨_, Ex.updm ex, hp p (fresh_back ex np)⟩⟩
theorem k_lst {tl : TA} (h : EvAK tl σ H fun vs Hx => vs.length ≤ 100000 ∧ ∀ p, Hx p = none → P (.ref p) (upd Hx p (.lst vs))) : EvK (tLst tl) σ H P :=
  fun H1 e Q k => h H1 e _ fun vs H2 ⟨Hx, ex, hl, hp⟩ => ⟨sz_of hl, fun p np => k _ _ ⟨_, Ex.updm ex, hp p (fresh_back ex np)⟩⟩
theorem k_chain (h : EvK ta σ H fun x Hx => EvK tb σ Hx fun y Hy => RK r x y Hy fun z Hz => ∃ b, z = .bl b ∧ (b = true → EvK tc σ Hz fun w Hw => RK r' y w Hw P) ∧ (b = false → P (.bl false) Hz)) : EvK (tChain r r' ta tb tc) σ H P :=
  fun H1 e Q k => h H1 e _ fun x H2 ⟨Hx, ex, h2⟩ => h2 H2 ex _ fun y H3 ⟨Hy, ey, h3⟩ => h3 H3 ey _ fun z H4 ⟨Hz, ez, b, eb, ht, hf⟩ => ⟨b, eb, by
    cases b with
    | true =>
      rw [if_pos rfl]
      exact ht rfl H4 ez _ fun w H5 ⟨Hw, ew, h5⟩ => h5 H5 ew Q k
    | false =>
      rw [if_neg Bool.false_ne_true]
      exact k _ _ ⟨Hz, ez, hf rfl⟩⟩
theorem k_andV (h : EvK ta σ H fun x Hx => ∃ b, x = .bl b ∧ (b = true → EvK tb σ Hx P) ∧ (b = false → P (.bl false) Hx)) : EvK (tAndV ta tb) σ H P :=
  fun H1 e Q k => h H1 e _ fun x H2 ⟨Hx, ex, b, eb, ht, hf⟩ => ⟨b, eb, by
    cases b with
    | true =>
      rw [if_pos rfl]
      exact ht rfl H2 ex Q k
    | false =>
      rw [if_neg Bool.false_ne_true]
      exact k _ _ ⟨Hx, ex, hf rfl⟩⟩
theorem k_orV (h : EvK ta σ H fun x Hx => ∃ b, x = .bl b ∧ (b = true → P (.bl true) Hx) ∧ (b = false → EvK tb σ Hx P)) : EvK (tOrV ta tb) σ H P :=
  fun H1 e Q k => h H1 e _ fun x H2 ⟨Hx, ex, b, eb, ht, hf⟩ => ⟨b, eb, by
    cases b with
    | true =>
      rw [if_pos rfl]
      exact k _ _ ⟨Hx, ex, ht rfl⟩
    | false =>
      rw [if_neg Bool.false_ne_true]
      exact hf rfl H2 ex Q k⟩
theorem k_notV (h : EvK ta σ H fun x Hx => ∃ b, x = .bl b ∧ P (.bl (!b)) Hx) : EvK (tNotV ta) σ H P :=
  fun H1 e Q k => h H1 e _ fun x H2 ⟨Hx, ex, b, eb, hp⟩ => ⟨b, eb, k _ _ ⟨Hx, ex, hp⟩⟩
theorem k_sl {rs : V → Option Int → Option Int → Hp → VK → Prop} {tl th : TO} (h : EvK te σ H fun x Hx => EvOK tl σ Hx fun l Hl => EvOK th σ Hl fun u Hu => Kc (rs x l u) Hu P) : EvK (tSl rs te tl th) σ H P :=
  fun H1 e Q k => h H1 e _ fun x H2 ⟨_, ex, h2⟩ => h2 H2 ex _ fun l H3 ⟨_, el, h3⟩ => h3 H3 el _ fun u H4 ⟨_, eu, h4⟩ => h4 H4 eu Q k
theorem k_nopart {PO : Option Int → Hp → Prop} (h : PO none H) : EvOK tNoPart σ H PO := kc_pure h
theorem k_part {PO : Option Int → Hp → Prop} (h : EvK te σ H fun x Hx => ∃ i, x = .int i ∧ PO (some i) Hx) : EvOK (tPart te) σ H PO :=
  fun H1 e Q k => h H1 e _ fun x H2 ⟨Hx, ex, i, ei, hp⟩ => ⟨i, ei, k _ _ ⟨Hx, ex, hp⟩⟩
theorem k_bm {T : String} {rm : V → List V → Hp → VK → Prop} {tl : TA} (h : EvK ta σ H fun x Hx => (∀ H1, Ex Hx H1 → tyV K T x H1) ∧ EvAK tl σ Hx fun vs Hy => MK rm x vs Hy P) : EvK (tBM K T rm ta tl) σ H P :=
  fun H1 e Q k => h H1 e _ fun x H2 ⟨Hx, ex, hty, h2⟩ => ⟨hty H2 ex, h2 H2 ex _ fun vs H3 ⟨Hy, ey, h3⟩ => h3 H3 ey Q k⟩
theorem k_bm0 {T : String} {rm : V → List V → Hp → VK → Prop} (h : EvK ta σ H fun x Hx => (∀ H1, Ex Hx H1 → tyV K T x H1) ∧ MK rm x [] Hx P) : EvK (tBM0 K T rm ta) σ H P :=
  fun H1 e Q k => h H1 e _ fun x H2 ⟨Hx, ex, hty, h2⟩ => ⟨hty H2 ex, h2 H2 ex Q k⟩
theorem tyl {a : Addr} {xs : List V} (h : SqL K H a xs) : ∀ H1, Ex H H1 → tyV K "list" (.ref a) H1 := fun H1 e => Or.inl ⟨rfl, _, ex_l e h⟩

/-! ### tests -/
theorem kt_test {PB : Bool → Hp → Prop} (h : EvK te σ H fun x Hx => ∃ b, x = .bl b ∧ PB b Hx) : EvTK (tTest te) σ H PB := fun H1 e Q k => h H1 e _ fun x H2 ⟨Hx, ex, b, eb, hp⟩ => ⟨b, eb, k _ _ ⟨Hx, ex, hp⟩⟩
theorem kt_B {PB : Bool → Hp → Prop} (h : EvK te σ H fun x Hx => ∃ b, x = .bl b ∧ PB b Hx) : EvTK (tB te) σ H PB := fun H1 e Q k => h H1 e _ fun x H2 ⟨Hx, ex, b, eb, hp⟩ => ⟨b, eb, k _ _ ⟨Hx, ex, hp⟩⟩
theorem kt_yes {PB : Bool → Hp → Prop} (h : PB true H) : EvTK tYes σ H PB := kc_pure h
theorem kt_and {PB : Bool → Hp → Prop} (h : EvTK t σ H fun b Hx => (b = true → EvTK u σ Hx PB) ∧ (b = false → PB false Hx)) : EvTK (tAnd t u) σ H PB := fun H1 e Q k => h H1 e _ fun b H2 ⟨Hx, ex, ht, hf⟩ => by
  cases b with
  | true =>
    rw [if_pos rfl]
    exact ht rfl H2 ex Q k
  | false =>
    rw [if_neg Bool.false_ne_true]
    exact k _ _ ⟨Hx, ex, hf rfl⟩
theorem kt_or {PB : Bool → Hp → Prop} (h : EvTK t σ H fun b Hx => (b = true → PB true Hx) ∧ (b = false → EvTK u σ Hx PB)) : EvTK (tOr t u) σ H PB := fun H1 e Q k => h H1 e _ fun b H2 ⟨Hx, ex, ht, hf⟩ => by
  cases b with
  | true =>
    rw [if_pos rfl]
    exact k _ _ ⟨Hx, ex, ht rfl⟩
  | false =>
    rw [if_neg Bool.false_ne_true]
    exact hf rfl H2 ex Q k
theorem kt_not {PB : Bool → Hp → Prop} (h : EvTK t σ H fun b Hx => PB (!b) Hx) : EvTK (tNot t) σ H PB := fun H1 e Q k => h H1 e _ fun b H2 ⟨Hx, ex, hp⟩ => k _ _ ⟨Hx, ex, hp⟩

/-! ### operations on values -/
theorem r_I0 {g : Int → Int → V} {i j : Int} (h : P (g i j) H) : RK (rI0 g) (.int i) (.int j) H P := fun H1 e Q k => ⟨i, j, rfl, rfl, k _ _ ⟨H, e, h⟩⟩
theorem r_I {C : Int → Int → Prop} {g : Int → Int → V} {i j : Int} (h : C i j ∧ P (g i j) H) : RK (rI C g) (.int i) (.int j) H P := fun H1 e Q k => ⟨i, j, rfl, rfl, h.1, k _ _ ⟨H, e, h.2⟩⟩
theorem r_I' {C : Int → Int → Prop} {g : Int → Int → V} {i j : Int} (h : P (g i j) H) (hc : C i j) : RK (rI C g) (.int i) (.int j) H P := r_I ⟨hc, h⟩
theorem r_eq (h : scal x y = true ∧ P (.bl (decide (x = y))) H) : RK rEq x y H P := fun H1 e Q k => ⟨h.1, k _ _ ⟨H, e, h.2⟩⟩
theorem r_ne (h : scal x y = true ∧ P (.bl (!decide (x = y))) H) : RK rNe x y H P := fun H1 e Q k => ⟨h.1, k _ _ ⟨H, e, h.2⟩⟩
theorem r_eqI {i j : Int} (h : P (.bl (decide (i = j))) H) : RK rEq (.int i) (.int j) H P := r_eq ⟨rfl, by
  have e : decide (V.int i = V.int j) = decide (i = j) := by
    by_cases c : i = j
    · subst c
      rw [decide_eq_true rfl, decide_eq_true rfl]
    · rw [decide_eq_false c, decide_eq_false fun z => c (V.int.inj z)]
  rw [e]
  exact h⟩
theorem r_neI {i j : Int} (h : P (.bl (!decide (i = j))) H) : RK rNe (.int i) (.int j) H P := r_ne ⟨rfl, by
  have e : decide (V.int i = V.int j) = decide (i = j) := by
    by_cases c : i = j
    · subst c
      rw [decide_eq_true rfl, decide_eq_true rfl]
    · rw [decide_eq_false c, decide_eq_false fun z => c (V.int.inj z)]
  rw [e]
  exact h⟩
theorem r_neg {i : Int} (h : P (.int (-i)) H) : Kc (rU (fun i => V.int (-i)) (.int i)) H P := fun H1 e Q k => ⟨i, rfl, k _ _ ⟨H, e, h⟩⟩
theorem r_ixL {p : Addr} {xs : List V} {i : Int} (h : SqL K H p xs) (ha : atI xs i = some v) (hp : P v H) : RK (rIxL K) (.ref p) (.int i) H P := fun H1 e Q k => ⟨p, xs, i, v, rfl, rfl, ex_l e h, ha, k _ _ ⟨H, e, hp⟩⟩
theorem r_ixT {p : Addr} {xs : List V} {i : Int} (h : SqT K H p xs) (ha : atI xs i = some v) (hp : P v H) : RK (rIxT K) (.ref p) (.int i) H P := fun H1 e Q k => ⟨p, xs, i, v, rfl, rfl, ex_t e h, ha, k _ _ ⟨H, e, hp⟩⟩
theorem r_slL {p : Addr} {xs : List V} {lo hi : Option Int} (h : SqL K H p xs) (hp : ∀ q, H q = none → P (.ref q) (upd H q (.lst (cutV xs lo hi)))) : Kc (rSlL K (.ref p) lo hi) H P := fun H1 e Q k => ⟨p, xs, rfl, ex_l e h, fun q nq => k _ _ ⟨_, Ex.updm e, hp q (fresh_back e nq)⟩⟩
theorem r_isN (h : P (.bl (decide (x = .non))) H) : RK (fun x y H Q => y = .non ∧ Q (.bl (decide (x = .non))) H) x .non H P := fun H1 e Q k => ⟨rfl, k _ _ ⟨H, e, h⟩⟩
theorem r_notN (h : P (.bl (!decide (x = .non))) H) : RK (fun x y H Q => y = .non ∧ Q (.bl (!decide (x = .non))) H) x .non H P := fun H1 e Q k => ⟨rfl, k _ _ ⟨H, e, h⟩⟩
theorem r_isB {a b : Bool} (h : P (.bl (decide (a = b))) H) : RK rIsB (.bl a) (.bl b) H P := fun H1 e Q k => ⟨a, b, rfl, rfl, k _ _ ⟨H, e, h⟩⟩
mutual
theorem dp_ex {H H1 : Hp} (e : Ex H H1) : ∀ {v : V} {d : PyData}, Dp K H v d → Dp K H1 v d
  | _, _, .non => .non
  | _, _, .bl b => .bl b
  | _, _, .int i => .int i
  | _, _, .str x => .str x
  | _, _, .lst h k => .lst (ex_l e h) (dpa_ex e k)
  | _, _, .tup h k => .tup (ex_t e h) (dpa_ex e k)
theorem dpa_ex {H H1 : Hp} (e : Ex H H1) : ∀ {vs : List V} {ds : List PyData}, DpAll K H vs ds → DpAll K H1 vs ds
  | _, _, .nil => .nil
  | _, _, .cons h k => .cons (dp_ex e h) (dpa_ex e k)
end
theorem r_eqD {d d' : PyData} (h1 : Dp K H x d) (h2 : Dp K H y d') (s1 : SeqAt.shaped d = true) (s2 : SeqAt.shaped d' = true) (hp : P (.bl (PyData.eqv d d')) H) : RK (rEqD K) x y H P := fun H1 e Q k => ⟨d, d', dp_ex e h1, dp_ex e h2, s1, s2, k _ _ ⟨H, e, hp⟩⟩
theorem r_neD {d d' : PyData} (h1 : Dp K H x d) (h2 : Dp K H y d') (s1 : SeqAt.shaped d = true) (s2 : SeqAt.shaped d' = true) (hp : P (.bl (!PyData.eqv d d')) H) : RK (rNeD K) x y H P := fun H1 e Q k => ⟨d, d', dp_ex e h1, dp_ex e h2, s1, s2, k _ _ ⟨H, e, hp⟩⟩
theorem eqv_self {d : PyData} (h : SeqAt.shaped d = true) : PyData.eqv d d = true := SeqAt.eqv_refl d (SeqAt.canLay_of_shaped h)
/-- both the same data -/
theorem r_eqS {d : PyData} (h1 : Dp K H x d) (h2 : Dp K H y d) (s1 : SeqAt.shaped d = true) (hp : P (.bl true) H) : RK (rEqD K) x y H P := r_eqD h1 h2 s1 s1 (by rw [eqv_self s1]; exact hp)
theorem r_neS {d : PyData} (h1 : Dp K H x d) (h2 : Dp K H y d) (s1 : SeqAt.shaped d = true) (hp : P (.bl false) H) : RK (rNeD K) x y H P := r_neD h1 h2 s1 s1 (by rw [eqv_self s1]; exact hp)
theorem dpa_ints : ∀ ns : List Int, DpAll K H (ns.map V.int) (ns.map PyData.int)
  | [] => .nil
  | n :: ns => .cons (.int n) (dpa_ints ns)
theorem dp_ints {a : Addr} {ns : List Int} (h : SqL K H a (ns.map V.int)) : Dp K H (.ref a) (.list (ns.map PyData.int)) := .lst h (dpa_ints ns)
theorem lay_ints : ∀ ns : List Int, PyData.canLayAll0 (ns.map PyData.int) = true
  | [] => rfl
  | n :: ns => by
    show (PyData.canLay0 (.int n) && PyData.canLayAll0 (ns.map PyData.int)) = true
    rw [lay_ints ns]
    rfl
theorem dep_ints : ∀ ns : List Int, PyData.depthAll (ns.map PyData.int) = 0
  | [] => rfl
  | n :: ns => by
    show max (PyData.depth (.int n)) (PyData.depthAll (ns.map PyData.int)) = 0
    rw [dep_ints ns]
    rfl
theorem sh_ints (ns : List Int) : SeqAt.shaped (.list (ns.map PyData.int)) = true := by
  show (PyData.canLayAll0 (ns.map PyData.int) && decide (PyData.depthAll (ns.map PyData.int) + 1 ≤ 64)) = true
  rw [lay_ints, dep_ints]
  rfl
/-- two lists of the same whole numbers -/
theorem r_eqI2 {a b : Addr} {ns : List Int} (h1 : SqL K H a (ns.map V.int)) (h2 : SqL K H b (ns.map V.int)) (hp : P (.bl true) H) : RK (rEqD K) (.ref a) (.ref b) H P := r_eqS (dp_ints h1) (dp_ints h2) (sh_ints ns) hp
theorem r_neI2 {a b : Addr} {ns : List Int} (h1 : SqL K H a (ns.map V.int)) (h2 : SqL K H b (ns.map V.int)) (hp : P (.bl false) H) : RK (rNeD K) (.ref a) (.ref b) H P := r_neS (dp_ints h1) (dp_ints h2) (sh_ints ns) hp
theorem r_cat {l b : Addr} {xs zs : List V} (h1 : H l = some (.lst xs)) (h2 : H b = some (.lst zs)) (hz : xs.length + zs.length ≤ 100000) (hp : ∀ p, H p = none → P (.ref p) (upd H p (.lst (xs ++ zs)))) : RK rCat (.ref l) (.ref b) H P := fun H1 e Q k =>
  ⟨l, b, xs, zs, rfl, rfl, e _ _ h1, e _ _ h2, sz_of hz, fun p np => k _ _ ⟨_, Ex.updm e, hp p (fresh_back e np)⟩⟩

theorem cut_from (xs : List V) : cutV xs (some 1) none = xs.drop 1 := by
  unfold cutV
  rw [show HT.sIx xs.length 0 (some 1) = min 1 xs.length from HT.sIx_nat xs.length 0 1, HT.sIx_none]
  cases xs with
  | nil => rfl
  | cons x r =>
    rw [show min 1 (x :: r).length = 1 by
      rw [List.length_cons]
      omega]
    show (List.take ((x :: r).length - 1) r) = r
    rw [List.length_cons, Nat.add_sub_cancel]
    exact List.take_length

theorem cut_to {xs : List V} {k : Nat} (h : k ≤ xs.length) : cutV xs none (some (k : Int)) = xs.take k := by
  unfold cutV
  rw [show HT.sIx xs.length xs.length (some (k : Int)) = min k xs.length from HT.sIx_nat xs.length xs.length k, HT.sIx_none, Nat.min_eq_left h, List.drop_zero, Nat.sub_zero]

theorem cut_ints (ns : List Int) (lo hi : Option Int) : ∃ cs : List Int, cutV (ns.map V.int) lo hi = cs.map V.int ∧ (∀ z ∈ cs, z ∈ ns) ∧ cs.length ≤ ns.length := by
  unfold cutV
  rw [← List.map_drop, ← List.map_take]
  refine ⟨_, rfl, fun z hz => List.mem_of_mem_drop (List.mem_of_mem_take hz), ?_⟩
  rw [List.length_take, List.length_drop]
  omega

/-! ### calls of built-ins -/
theorem c_len {p : Addr} {xs : List V} (h : SqL K H p xs) (hp : P (.int xs.length) H) : CK (rLn K) [.ref p] H P := fun H1 e Q k => ⟨p, xs, rfl, .inl (ex_l e h), k _ _ ⟨H, e, hp⟩⟩
theorem c_lenT {p : Addr} {xs : List V} (h : SqT K H p xs) (hp : P (.int xs.length) H) : CK (rLn K) [.ref p] H P := fun H1 e Q k => ⟨p, xs, rfl, .inr (ex_t e h), k _ _ ⟨H, e, hp⟩⟩
theorem c_list {p : Addr} {xs : List V} (h : SqL K H p xs) (hp : ∀ q, H q = none → P (.ref q) (upd H q (.lst xs))) : CK (rLs K) [.ref p] H P := fun H1 e Q k => ⟨p, xs, rfl, .inl (ex_l e h), fun q nq => k _ _ ⟨_, Ex.updm e, hp q (fresh_back e nq)⟩⟩
theorem c_sum {p : Addr} {ns : List Int} (h : SqL K H p (ns.map V.int)) (hp : P (.int ns.sum) H) : CK (rSum K) [.ref p] H P := fun H1 e Q k => ⟨p, ns, rfl, ex_l e h, k _ _ ⟨H, e, hp⟩⟩
theorem c_min {p : Addr} {ns : List Int} (h : SqL K H p (ns.map V.int)) (h0 : 0 < ns.length) (hp : ∀ m, m ∈ ns → (∀ y, y ∈ ns → m ≤ y) → P (.int m) H) : CK (rMin K) [.ref p] H P := fun H1 e Q k => ⟨p, ns, rfl, ex_l e h, h0, fun m hm hl => k _ _ ⟨H, e, hp m hm hl⟩⟩
theorem c_max {p : Addr} {ns : List Int} (h : SqL K H p (ns.map V.int)) (h0 : 0 < ns.length) (hp : ∀ m, m ∈ ns → (∀ y, y ∈ ns → y ≤ m) → P (.int m) H) : CK (rMax K) [.ref p] H P := fun H1 e Q k => ⟨p, ns, rfl, ex_l e h, h0, fun m hm hl => k _ _ ⟨H, e, hp m hm hl⟩⟩
theorem c_max2 {i j : Int} (hp : P (.int (if j > i then j else i)) H) : CK (fun xs H Q => ∃ i j, xs = [.int i, .int j] ∧ Q (.int (if j > i then j else i)) H) [.int i, .int j] H P := fun H1 e Q k => ⟨i, j, rfl, k _ _ ⟨H, e, hp⟩⟩
theorem c_min2 {i j : Int} (hp : P (.int (if j < i then j else i)) H) : CK (fun xs H Q => ∃ i j, xs = [.int i, .int j] ∧ Q (.int (if j < i then j else i)) H) [.int i, .int j] H P := fun H1 e Q k => ⟨i, j, rfl, k _ _ ⟨H, e, hp⟩⟩
theorem c_intB {b : Bool} (hp : P (.int (if b then 1 else 0)) H) : CK (fun xs H Q => (∃ i, xs = [.int i] ∧ Q (.int i) H) ∨ ∃ k, xs = [.bl k] ∧ Q (.int (if k then 1 else 0)) H) [.bl b] H P := fun H1 e Q k => .inr ⟨b, rfl, k _ _ ⟨H, e, hp⟩⟩
theorem tyx_ex {H1 : Hp} (e : Ex H H1) {t : Value} (h : TyX K H x t) : TyX K H1 x t := by
  cases h with
  | base b =>
    refine .base ?_
    cases b with
    | non => exact .non
    | bl y => exact .bl y
    | int i => exact .int i
    | str y => exact .str y
    | flt y => exact .flt y
    | lst ea => exact .lst (e _ _ ea)
    | frz ea => exact .frz (e _ _ ea)
    | tup ea => exact .tup (e _ _ ea)
    | dK ea => exact .dK (e _ _ ea)
    | dT ea => exact .dT (e _ _ ea)
    | ins ea cl ha hn htk hm => exact .ins (e _ _ ea) cl ha hn htk hm
  | byt y => exact .byt y
  | set ea => exact .set (e _ _ ea)
  | kList ea c => exact .kList ea c
  | kTuple ea c => exact .kTuple ea c
  | kDict ea c => exact .kDict ea c
  | fTuple ea => exact .fTuple (e _ _ ea)
  | fDict ea => exact .fDict (e _ _ ea)
theorem c_isi {n : String} {a : String} {b : Bool} (ty : TyX K H x (.type a)) (hk : kitB a n = some b) (hp : P (.bl b) H) : CK (rIsi K) [x, .ty n] H P := fun H1 e Q k => ⟨x, .ty n, .type a, .type n, b, rfl, .ty n, tyx_ex e ty, kit_ty hk, k _ _ ⟨H, e, hp⟩⟩
theorem ty_lst {a : Addr} {xs : List V} (h : H a = some (.lst xs)) : TyX K H (.ref a) (.type "list") := .base (.lst h)
theorem ty_tup {a : Addr} {xs : List V} (h : H a = some (.tup xs)) : TyX K H (.ref a) (.type "tuple") := .base (.tup h)
theorem c_list_list {a : Addr} {xs : List V} (h : H a = some (.lst xs)) (hp : P (.bl true) H) : CK (rIsi K) [.ref a, .ty "list"] H P := c_isi (ty_lst h) (by decide +kernel) hp
theorem c_tup_tup {a : Addr} {xs : List V} (h : H a = some (.tup xs)) (hp : P (.bl true) H) : CK (rIsi K) [.ref a, .ty "tuple"] H P := c_isi (ty_tup h) (by decide +kernel) hp
theorem c_int_int {i : Int} (hp : P (.bl true) H) : CK (rIsi K) [.int i, .ty "int"] H P := c_isi (.base (.int i)) (by decide +kernel) hp
theorem c_int_bool {i : Int} (hp : P (.bl false) H) : CK (rIsi K) [.int i, .ty "bool"] H P := c_isi (.base (.int i)) (by decide +kernel) hp
theorem c_bl_bool {i : Bool} (hp : P (.bl true) H) : CK (rIsi K) [.bl i, .ty "bool"] H P := c_isi (.base (.bl i)) (by decide +kernel) hp
theorem c_str_str {i : Str} (hp : P (.bl true) H) : CK (rIsi K) [.str i, .ty "str"] H P := c_isi (.base (.str i)) (by decide +kernel) hp
theorem c_non_int (hp : P (.bl false) H) : CK (rIsi K) [.non, .ty "int"] H P := c_isi (.base .non) (by decide +kernel) hp

/-! ### methods of lists -/
theorem m_append {l : Addr} {xs : List V} (h : H l = some (.lst xs)) (hz : xs.length < 100000) (hp : P .non (upd H l (.lst (xs ++ [y])))) : MK rAppend (.ref l) [y] H P := fun H1 e Q k => ⟨l, xs, y, rfl, rfl, e _ _ h, sz_lt hz, k _ _ ⟨_, Ex.updm e, hp⟩⟩
theorem m_reverse {l : Addr} {xs : List V} (h : H l = some (.lst xs)) (hp : P .non (upd H l (.lst xs.reverse))) : MK rReverse (.ref l) [] H P := fun H1 e Q k => ⟨l, xs, rfl, rfl, e _ _ h, k _ _ ⟨_, Ex.updm e, hp⟩⟩
theorem m_clear {l : Addr} {xs : List V} (h : H l = some (.lst xs)) (hp : P .non (upd H l (.lst []))) : MK rClear (.ref l) [] H P := fun H1 e Q k => ⟨l, xs, rfl, rfl, e _ _ h, k _ _ ⟨_, Ex.updm e, hp⟩⟩

/-! ### statements -/
theorem Go.here {s : TS} (h : Go s D σ H) : s D σ H := h H (Ex.refl H)
theorem Go.mono {s : TS} (h : Go s D σ H) (e : Ex H H') : Go s D σ H' := fun H1 a => h H1 (e.trans a)
variable {s s2 w : TS}
/-- a statement ahead of w -/
theorem gs_asg {i : Nat} (h : EvK te σ H fun v Hx => Go w D (σ.set i (some v)) Hx) : Go (tSeq (tAsg te (gName i)) w) D σ H := fun H1 e => h H1 e _ fun v H2 ⟨_, ex, g⟩ => g H2 ex
theorem gs_drop (h : EvK te σ H fun _ Hx => Go w D σ Hx) : Go (tSeq (tDrop te) w) D σ H := fun H1 e => h H1 e _ fun v H2 ⟨_, ex, g⟩ => g H2 ex
theorem gs_if (h : EvTK t σ H fun b Hx => (b = true → Go s { D with nx := w D } σ Hx) ∧ (b = false → Go s2 { D with nx := w D } σ Hx)) : Go (tSeq (tIfS t s s2) w) D σ H := fun H1 e => h H1 e _ fun b H2 ⟨Hx, ex, ht, hf⟩ => by
  cases b with
  | true =>
    rw [if_pos rfl]
    exact ht rfl H2 ex
  | false =>
    rw [if_neg Bool.false_ne_true]
    exact hf rfl H2 ex
theorem gs_when (h : EvTK t σ H fun b Hx => (b = true → Go s { D with nx := w D } σ Hx) ∧ (b = false → Go w D σ Hx)) : Go (tSeq (tIfS t s tNext) w) D σ H := gs_if h
/-- the last statement of a block -/
theorem g1_asg {i : Nat} (h : EvK te σ H fun v Hx => ∀ H1, Ex Hx H1 → D.nx (σ.set i (some v)) H1) : Go (tAsg te (gName i)) D σ H := fun H1 e => h H1 e _ fun v H2 ⟨_, ex, g⟩ => g H2 ex
theorem g1_drop (h : EvK te σ H fun _ Hx => ∀ H1, Ex Hx H1 → D.nx σ H1) : Go (tDrop te) D σ H := fun H1 e => h H1 e _ fun v H2 ⟨_, ex, g⟩ => g H2 ex
theorem g1_ret (h : EvK te σ H (KQ D.rt)) : Go (tRet te) D σ H := fun H1 e => h H1 e _ fun v H2 ⟨_, ex, g⟩ => g H2 ex
theorem g1_if (h : EvTK t σ H fun b Hx => (b = true → Go s D σ Hx) ∧ (b = false → Go s2 D σ Hx)) : Go (tIfS t s s2) D σ H := fun H1 e => h H1 e _ fun b H2 ⟨Hx, ex, ht, hf⟩ => by
  cases b with
  | true =>
    rw [if_pos rfl]
    exact ht rfl H2 ex
  | false =>
    rw [if_neg Bool.false_ne_true]
    exact hf rfl H2 ex
theorem g1_next (h : ∀ H1, Ex H H1 → D.nx σ H1) : Go tNext D σ H := h
/-- the last statement of a block within a block: then w -/
theorem g2_asg {i : Nat} (h : EvK te σ H fun v Hx => Go w D (σ.set i (some v)) Hx) : Go (tAsg te (gName i)) { D with nx := w D } σ H := g1_asg h
theorem g2_drop (h : EvK te σ H fun _ Hx => Go w D σ Hx) : Go (tDrop te) { D with nx := w D } σ H := g1_drop h
theorem g2_next (h : Go w D σ H) : Go tNext { D with nx := w D } σ H := h
/-- what stands behind, shown once -/
theorem gs_cut (R : Go w D σ H) (h : Go w D σ H → Go (tSeq s w) D σ H) : Go (tSeq s w) D σ H := h R
/-- a, b = b, a -/
theorem gs_par {i j : Nat} {tl : TA} (h : EvAK tl σ H fun vs Hx => ∃ v z, vs = [v, z] ∧ Go w D ((σ.set i (some v)).set j (some z)) Hx) : Go (tSeq (tPar i j tl) w) D σ H := fun H1 e => h H1 e _ fun vs H2 ⟨_, ex, v, z, ev, g⟩ => ⟨v, z, ev, g H2 ex⟩
theorem g1_par {i j : Nat} {tl : TA} (h : EvAK tl σ H fun vs Hx => ∃ v z, vs = [v, z] ∧ ∀ H1, Ex Hx H1 → D.nx ((σ.set i (some v)).set j (some z)) H1) : Go (tPar i j tl) D σ H := fun H1 e => h H1 e _ fun vs H2 ⟨_, ex, v, z, ev, g⟩ => ⟨v, z, ev, g H2 ex⟩
theorem g2_par {i j : Nat} {tl : TA} (h : EvAK tl σ H fun vs Hx => ∃ v z, vs = [v, z] ∧ Go w D ((σ.set i (some v)).set j (some z)) Hx) : Go (tPar i j tl) { D with nx := w D } σ H := g1_par h
/-- o[i] = e -/
theorem gs_set (h : EvK te σ H fun v Hv => EvK ta σ Hv fun o Ho => EvK tb σ Ho fun i Hi => ∃ l xs n j, o = .ref l ∧ i = .int n ∧ Hi l = some (.lst xs) ∧ ixN xs.length n = some j ∧ Go w D σ (upd Hi l (.lst (xs.set j v)))) : Go (tSeq (tAsg te (gSub ta tb rSetL)) w) D σ H := fun H1 e =>
  h H1 e _ fun v H2 ⟨_, e2, h2⟩ => h2 H2 e2 _ fun o H3 ⟨_, e3, h3⟩ => h3 H3 e3 _ fun i H4 ⟨Hi, e4, l, xs, n, j, eo, ei, hl, hj, g⟩ => ⟨l, xs, n, j, eo, ei, e4 _ _ hl, hj, g _ (Ex.updm e4)⟩
theorem g1_set (h : EvK te σ H fun v Hv => EvK ta σ Hv fun o Ho => EvK tb σ Ho fun i Hi => ∃ l xs n j, o = .ref l ∧ i = .int n ∧ Hi l = some (.lst xs) ∧ ixN xs.length n = some j ∧ ∀ H1, Ex (upd Hi l (.lst (xs.set j v))) H1 → D.nx σ H1) : Go (tAsg te (gSub ta tb rSetL)) D σ H := fun H1 e =>
  h H1 e _ fun v H2 ⟨_, e2, h2⟩ => h2 H2 e2 _ fun o H3 ⟨_, e3, h3⟩ => h3 H3 e3 _ fun i H4 ⟨Hi, e4, l, xs, n, j, eo, ei, hl, hj, g⟩ => ⟨l, xs, n, j, eo, ei, e4 _ _ hl, hj, g _ (Ex.updm e4)⟩

theorem g2_set (h : EvK te σ H fun v Hv => EvK ta σ Hv fun o Ho => EvK tb σ Ho fun i Hi => ∃ l xs n j, o = .ref l ∧ i = .int n ∧ Hi l = some (.lst xs) ∧ ixN xs.length n = some j ∧ Go w D σ (upd Hi l (.lst (xs.set j v)))) : Go (tAsg te (gSub ta tb rSetL)) { D with nx := w D } σ H := g1_set h

/-! ### loops: a word (Pv) of the turn, the slots and the smallest heap -/
/-- a state that the word allows, the heap grown -/
def Lp (Pv : Nat → L2.St → Hp → Prop) (i : Nat) (σ : L2.St) (H : Hp) : Prop := ∃ Hx, Ex Hx H ∧ Pv i σ Hx
theorem gs_forL {a : Addr} {xs : List V} {j : Nat} (Pv : Nat → L2.St → Hp → Prop) (h : EvK te σ H fun v Hx => v = .ref a ∧ SqL K Hx a xs ∧ Pv 0 σ Hx) (hl : ∀ i σ' H', i ≤ xs.length → Pv i σ' H' → SqL K H' a xs)
    (hs : ∀ i x σ' H', xs[i]? = some x → Pv i σ' H' → Go s { D with nx := Lp Pv (i + 1), ct := Lp Pv (i + 1), bk := w D } (σ'.set j (some x)) H') (hd : ∀ σ' H', Pv xs.length σ' H' → Go w D σ' H') : Go (tSeq (tFor (iList K te) (gName j) s) w) D σ H := fun H1 e =>
  h H1 e _ fun v H2 ⟨Hx, ex, ev, hq, h0⟩ => ⟨a, ev, ⟨xs, ex_l ex hq⟩, for_list (D := { D with nx := w D }) (Lp Pv) ⟨Hx, ex, h0⟩ (fun i σ' H' hi ⟨Hy, ey, p⟩ => ex_l ey (hl i σ' Hy hi p)) (fun i x σ' H' hi ⟨Hy, ey, p⟩ => hs i x σ' Hy hi p H' ey) (fun σ' H' ⟨Hy, ey, p⟩ => hd σ' Hy p H' ey)⟩
/-- over a list that is made on the way -/
theorem gs_forF {j : Nat} (h : EvK te σ H fun v Hx => ∃ (a : Addr) (xs : List V) (Pv : Nat → L2.St → Hp → Prop), v = .ref a ∧ SqL K Hx a xs ∧ Pv 0 σ Hx ∧ (∀ i σ' H', i ≤ xs.length → Pv i σ' H' → SqL K H' a xs) ∧
    (∀ i x σ' H', xs[i]? = some x → Pv i σ' H' → Go s { D with nx := Lp Pv (i + 1), ct := Lp Pv (i + 1), bk := w D } (σ'.set j (some x)) H') ∧ (∀ σ' H', Pv xs.length σ' H' → Go w D σ' H')) : Go (tSeq (tFor (iList K te) (gName j) s) w) D σ H := fun H1 e =>
  h H1 e _ fun v H2 ⟨Hx, ex, a, xs, Pv, ev, hq, h0, hl, hs, hd⟩ => ⟨a, ev, ⟨xs, ex_l ex hq⟩, for_list (D := { D with nx := w D }) (Lp Pv) ⟨Hx, ex, h0⟩ (fun i σ' H' hi ⟨Hy, ey, p⟩ => ex_l ey (hl i σ' Hy hi p)) (fun i x σ' H' hi ⟨Hy, ey, p⟩ => hs i x σ' Hy hi p H' ey) (fun σ' H' ⟨Hy, ey, p⟩ => hd σ' Hy p H' ey)⟩
theorem g1_forL {a : Addr} {xs : List V} {j : Nat} (Pv : Nat → L2.St → Hp → Prop) (h : EvK te σ H fun v Hx => v = .ref a ∧ SqL K Hx a xs ∧ Pv 0 σ Hx) (hl : ∀ i σ' H', i ≤ xs.length → Pv i σ' H' → SqL K H' a xs)
    (hs : ∀ i x σ' H', xs[i]? = some x → Pv i σ' H' → Go s { D with nx := Lp Pv (i + 1), ct := Lp Pv (i + 1), bk := D.nx } (σ'.set j (some x)) H') (hd : ∀ σ' H', Pv xs.length σ' H' → ∀ H1, Ex H' H1 → D.nx σ' H1) : Go (tFor (iList K te) (gName j) s) D σ H := fun H1 e =>
  h H1 e _ fun v H2 ⟨Hx, ex, ev, hq, h0⟩ => ⟨a, ev, ⟨xs, ex_l ex hq⟩, for_list (Lp Pv) ⟨Hx, ex, h0⟩ (fun i σ' H' hi ⟨Hy, ey, p⟩ => ex_l ey (hl i σ' Hy hi p)) (fun i x σ' H' hi ⟨Hy, ey, p⟩ => hs i x σ' Hy hi p H' ey) (fun σ' H' ⟨Hy, ey, p⟩ => hd σ' Hy p H' ey)⟩
theorem gs_forR {n : Int} {tl : TA} {j : Nat} (Pv : Nat → L2.St → Hp → Prop) (h : EvAK tl σ H fun vs Hx => vs = [.int n] ∧ n ≤ 100000 ∧ 0 ≤ n ∧ Pv 0 σ Hx)
    (hs : ∀ (i : Nat) σ' H', (i : Int) < n → Pv i σ' H' → Go s { D with nx := Lp Pv (i + 1), ct := Lp Pv (i + 1), bk := w D } (σ'.set j (some (.int (i : Int)))) H') (hd : ∀ σ' H', Pv n.toNat σ' H' → Go w D σ' H') : Go (tSeq (tFor (iRng1 tl) (gName j) s) w) D σ H := fun H1 e =>
  h H1 e _ fun vs H2 ⟨Hx, ex, ev, hn, hn0, h0⟩ => ⟨n, ev, by omega, by omega, for_range (D := { D with nx := w D }) (lo := 0) (n := n.toNat) (Lp Pv) ⟨Hx, ex, h0⟩ (fun i σ' H' hi ⟨Hy, ey, p⟩ => by
    have e0 : (0 : Int) + (i : Int) = (i : Int) := Int.zero_add _
    show s _ (σ'.set j (some (.int ((0 : Int) + (i : Int))))) H'
    rw [e0]
    exact hs i σ' Hy (by omega) p H' ey) (fun σ' H' ⟨Hy, ey, p⟩ => hd σ' Hy p H' ey)⟩
theorem gs_forR2 {lo n : Int} {tl : TA} {j : Nat} (Pv : Nat → L2.St → Hp → Prop) (h : EvAK tl σ H fun vs Hx => vs = [.int lo, .int n] ∧ (0 ≤ lo ∧ lo ≤ 100000 ∧ -100000 ≤ n ∧ n ≤ 100000) ∧ Pv 0 σ Hx)
    (hs : ∀ (i : Nat) σ' H', lo + (i : Int) < n → Pv i σ' H' → Go s { D with nx := Lp Pv (i + 1), ct := Lp Pv (i + 1), bk := w D } (σ'.set j (some (.int (lo + (i : Int))))) H') (hd : ∀ σ' H', Pv (n - lo).toNat σ' H' → Go w D σ' H') : Go (tSeq (tFor (iRng2 tl) (gName j) s) w) D σ H := fun H1 e =>
  h H1 e _ fun vs H2 ⟨Hx, ex, ev, hn, h0⟩ => ⟨lo, n, ev, ⟨by omega, by omega, by omega, by omega⟩, for_range (D := { D with nx := w D }) (lo := lo) (n := (n - lo).toNat) (Lp Pv) ⟨Hx, ex, h0⟩ (fun i σ' H' hi ⟨Hy, ey, p⟩ => hs i σ' Hy (by omega) p H' ey) (fun σ' H' ⟨Hy, ey, p⟩ => hd σ' Hy p H' ey)⟩

/-! ### comprehensions: [e for x in range(n)], [e for x in xs]; the elements v i -/
/-- the words of an element: at any heap that has grown, the value alone -/
theorem k_lcR {n : Int} {tl : TA} {j : Nat} {vs : List Nat} (f : Nat → V) (h : EvAK tl σ H fun ws Hx => ws = [.int n] ∧ n ≤ 40000 ∧ 0 ≤ n ∧ (∀ x, wipe ((wipe σ vs).set j (some x)) vs = wipe σ vs) ∧ (∀ (i : Nat) Hz, (i : Int) < n → Ex Hx Hz → EvK te ((wipe σ vs).set j (some (.int (i : Int)))) Hz fun v Hy => v = f i ∧ Hy = Hz) ∧ ∀ p, Hx p = none → P (.ref p) (upd Hx p (.lst ((List.range n.toNat).map f)))) :
    EvK (tLc (iRng1 tl) (gName j) tYes te vs) σ H P := fun H1 e Q k =>
  h H1 e _ fun ws H2 ⟨Hx, ex, ev, hn, hn0, hw, hs, hd⟩ => ⟨n, ev, by omega, by omega, fun p np => by
    have npx : Hx p = none := fresh_back ex np
    refine lc_range (lo := 0) (n := n.toNat) (fun i H' => Ex (upd Hx p (.lst ((List.range i).map f))) H') (Ex.updm ex) (fun i H' hi p' => ?_) (fun H' p' => k _ _ ⟨_, p', hd p npx⟩)
    have e0 : (0 : Int) + (i : Int) = (i : Int) := Int.zero_add _
    show wipe ((wipe σ vs).set j (some (.int ((0 : Int) + (i : Int))))) vs = wipe σ vs ∧ te ((wipe σ vs).set j (some (.int ((0 : Int) + (i : Int))))) H' fun y H4 => ∃ acc, H4 p = some (.lst acc) ∧ acc.length < sizeLine ∧ Ex (upd Hx p (.lst ((List.range (i + 1)).map f))) (upd H4 p (.lst (acc ++ [y])))
    rw [e0]
    refine ⟨hw _, hs i (upd Hx p (.lst ((List.range i).map f))) (by omega) (Ex.new npx) H' p' _ ?_⟩
    rintro y H4 ⟨Hy, ey, rfl, rfl⟩
    refine ⟨_, ey p _ upd_same, sz_lt (by rw [List.length_map, List.length_range]; omega), ?_⟩
    have e5 : (List.range (i + 1)).map f = (List.range i).map f ++ [f i] := by rw [List.range_succ, List.map_append]; rfl
    rw [e5]
    exact Ex.updm (fun a u q => by
      by_cases ha : a = p
      · subst ha
        rw [npx] at q
        cases q
      · exact ey a u (by rw [upd_ne ha]; exact q))⟩
theorem k_lcL {a : Addr} {xs : List V} {j : Nat} {vs : List Nat} {tl : TE} (f : Nat → V → V) (h : EvK tl σ H fun w Hx => w = .ref a ∧ SqL K Hx a xs ∧ xs.length ≤ 40000 ∧ (∀ x, wipe ((wipe σ vs).set j (some x)) vs = wipe σ vs) ∧ (∀ (i : Nat) x Hz, xs[i]? = some x → Ex Hx Hz → EvK te ((wipe σ vs).set j (some x)) Hz fun v Hy => v = f i x ∧ Hy = Hz) ∧ ∀ p, Hx p = none → P (.ref p) (upd Hx p (.lst (xs.mapIdx f)))) :
    EvK (tLc (iList K tl) (gName j) tYes te vs) σ H P := fun H1 e Q k =>
  h H1 e _ fun w H2 ⟨Hx, ex, ev, hq, hn, hw, hs, hd⟩ => ⟨a, ev, ⟨xs, ex_l ex hq⟩, fun p np => by
    have npx : Hx p = none := fresh_back ex np
    refine lc_list (xs := xs) (fun i H' => Ex (upd Hx p (.lst ((xs.take i).mapIdx f))) H') (Ex.updm ex) (fun i H' _ p' => ex_l p' (ex_l (Ex.new npx) hq)) (fun i x H' hi p' => ?_) (fun H' p' => k _ _ ⟨_, p', by rw [List.take_length]; exact hd p npx⟩)
    show wipe ((wipe σ vs).set j (some x)) vs = wipe σ vs ∧ te ((wipe σ vs).set j (some x)) H' fun y H4 => ∃ acc, H4 p = some (.lst acc) ∧ acc.length < sizeLine ∧ Ex (upd Hx p (.lst ((xs.take (i + 1)).mapIdx f))) (upd H4 p (.lst (acc ++ [y])))
    have hlt : i < xs.length := (List.getElem?_eq_some_iff.mp hi).1
    refine ⟨hw _, hs i x (upd Hx p (.lst ((xs.take i).mapIdx f))) hi (Ex.new npx) H' p' _ ?_⟩
    rintro y H4 ⟨Hy, ey, rfl, rfl⟩
    refine ⟨_, ey p _ upd_same, sz_lt (by rw [List.length_mapIdx, List.length_take]; omega), ?_⟩
    have e5 : (xs.take (i + 1)).mapIdx f = (xs.take i).mapIdx f ++ [f i x] := by
      rw [List.take_succ, hi, List.mapIdx_append, List.length_take, Nat.min_eq_left (Nat.le_of_lt hlt)]
      simp
    rw [e5]
    exact Ex.updm (fun a u q => by
      by_cases ha : a = p
      · subst ha
        rw [npx] at q
        cases q
      · exact ey a u (by rw [upd_ne ha]; exact q))⟩

/-! ### targets -/
def GK (g : TG) (v : V) (σ : L2.St) (H : Hp) (R : L2.St → Hp → Prop) : Prop := ∀ H1, Ex H H1 → ∀ Q : L2.St → Hp → Prop, (∀ σ' H2, (∃ Hx, Ex Hx H2 ∧ R σ' Hx) → Q σ' H2) → g v σ H1 Q
theorem gk_name {i : Nat} {R : L2.St → Hp → Prop} (h : R (σ.set i (some v)) H) : GK (gName i) v σ H R := fun H1 e Q k => k _ _ ⟨H, e, h⟩
theorem gk_tup2 {a : Addr} {g1 g2 : TG} {R : L2.St → Hp → Prop} (hq : SqT K H a [x, y]) (h : GK g1 x σ H fun σ1 H1 => GK g2 y σ1 H1 R) : GK (gTup K 2 (gCons g1 (gCons g2 gNil))) (.ref a) σ H R := fun H1 e Q k =>
  ⟨a, [x, y], rfl, ex_t e hq, rfl, x, [y], rfl, h H1 e _ fun σ1 H2 ⟨_, ex, h2⟩ => ⟨y, [], rfl, h2 H2 ex _ fun σ2 H3 z => ⟨rfl, k σ2 H3 z⟩⟩⟩
theorem gk_tup3 {a : Addr} {g1 g2 g3 : TG} {R : L2.St → Hp → Prop} (hq : SqT K H a [x, y, z]) (h : GK g1 x σ H fun σ1 H1 => GK g2 y σ1 H1 fun σ2 H2 => GK g3 z σ2 H2 R) : GK (gTup K 3 (gCons g1 (gCons g2 (gCons g3 gNil)))) (.ref a) σ H R := fun H1 e Q k =>
  ⟨a, [x, y, z], rfl, ex_t e hq, rfl, x, [y, z], rfl, h H1 e _ fun σ1 H2 ⟨_, ex, h2⟩ => ⟨y, [z], rfl, h2 H2 ex _ fun σ2 H3 ⟨_, ey, h3⟩ => ⟨z, [], rfl, h3 H3 ey _ fun σ3 H4 u => ⟨rfl, k σ3 H4 u⟩⟩⟩⟩
theorem gs_asgG {g : TG} (h : EvK te σ H fun v Hx => GK g v σ Hx fun σ' Hy => Go w D σ' Hy) : Go (tSeq (tAsg te g) w) D σ H := fun H1 e => h H1 e _ fun v H2 ⟨_, ex, gk⟩ => gk H2 ex _ fun σ' H3 ⟨_, ey, go⟩ => go H3 ey
theorem gs_forG {g : TG} (h : EvK te σ H fun v Hx => ∃ (a : Addr) (xs : List V) (Pv : Nat → L2.St → Hp → Prop), v = .ref a ∧ SqL K Hx a xs ∧ Pv 0 σ Hx ∧ (∀ i σ' H', i ≤ xs.length → Pv i σ' H' → SqL K H' a xs) ∧
    (∀ i x σ' H', xs[i]? = some x → Pv i σ' H' → GK g x σ' H' fun σ2 H2 => Go s { D with nx := Lp Pv (i + 1), ct := Lp Pv (i + 1), bk := w D } σ2 H2) ∧ (∀ σ' H', Pv xs.length σ' H' → Go w D σ' H')) : Go (tSeq (tFor (iList K te) g s) w) D σ H := fun H1 e =>
  h H1 e _ fun v H2 ⟨Hx, ex, a, xs, Pv, ev, hq, h0, hl, hs, hd⟩ => ⟨a, ev, ⟨xs, ex_l ex hq⟩, for_list (D := { D with nx := w D }) (Lp Pv) ⟨Hx, ex, h0⟩ (fun i σ' H' hi ⟨Hy, ey, p⟩ => ex_l ey (hl i σ' Hy hi p)) (fun i x σ' H' hi ⟨Hy, ey, p⟩ => hs i x σ' Hy hi p H' ey _ fun σ2 H2 ⟨_, ez, go⟩ => go H2 ez) (fun σ' H' ⟨Hy, ey, p⟩ => hd σ' Hy p H' ey)⟩
/-- for x, y in zip(xs, ys): two lists of one length -/
theorem gs_forZ {g1 g2 : TG} {tl : TA} (h : EvAK tl σ H fun vs Hx => ∃ (a b : Addr) (xs ys : List V) (Pv : Nat → L2.St → Hp → Prop), vs = [.ref a, .ref b] ∧ SqL K Hx a xs ∧ SqL K Hx b ys ∧ xs.length = ys.length ∧ Pv 0 σ Hx ∧ (∀ i σ' H', Pv i σ' H' → SqL K H' a xs ∧ SqL K H' b ys) ∧
    (∀ i x y σ' H', xs[i]? = some x → ys[i]? = some y → Pv i σ' H' → GK g1 x σ' H' fun σ1 H1 => GK g2 y σ1 H1 fun σ2 H2 => Go s { D with nx := Lp Pv (i + 1), ct := Lp Pv (i + 1), bk := w D } σ2 H2) ∧ (∀ σ' H', Pv xs.length σ' H' → Go w D σ' H')) :
    Go (tSeq (tFor (iZip K tl) (gTup K 2 (gCons g1 (gCons g2 gNil))) s) w) D σ H := fun H1 e =>
  h H1 e _ fun vs H2 ⟨Hx, ex, a, b, xs, ys, Pv, ev, hx, hy, hl, h0, hq, hs, hd⟩ => ⟨a, b, xs, ys, ev, ex_l ex hx, ex_l ex hy, RZ.for_zipL (D := { D with nx := w D }) hl (Lp Pv) ⟨Hx, ex, h0⟩ (fun i σ' H' ⟨Hy, ey, p⟩ => ⟨ex_l ey (hq i σ' Hy p).1, ex_l ey (hq i σ' Hy p).2⟩)
    (fun i x y T σ' H' gx gy ⟨Hy, ey, p⟩ nT => gk_tup2 (H := upd H' T (.tup [x, y])) (st_of upd_same) (fun H3 e3 Q k => hs i x y σ' Hy gx gy p H3 ((ey.trans (Ex.new nT)).trans e3) Q k) _ (Ex.refl _) _ fun σ2 H2 ⟨_, ez, go⟩ => go H2 ez) (fun σ' H' ⟨Hy, ey, p⟩ => hd σ' Hy p H' ey)⟩
/-- divmod -/
theorem c_divmod {i j : Int} (hc : CDiv i j) (hp : ∀ p, H p = none → P (.ref p) (upd H p (.tup [.int (i / j), .int (i % j)]))) : CK (fun xs H Q => ∃ i j, xs = [.int i, .int j] ∧ CDiv i j ∧ ∀ p, H p = none → Q (.ref p) (upd H p (.tup [.int (i / j), .int (i % j)]))) [.int i, .int j] H P := fun H1 e Q k => ⟨i, j, rfl, hc, fun p np => k _ _ ⟨_, Ex.updm e, hp p (fresh_back e np)⟩⟩
/-- a statement whose ways meet: what holds behind it, told once -/
def Md (Pc : L2.St → Hp → Prop) (σ : L2.St) (H : Hp) : Prop := ∃ Hx, Ex Hx H ∧ Pc σ Hx
theorem gs_mid (Pc : L2.St → Hp → Prop) (h : Go s { D with nx := Md Pc } σ H) (R : ∀ σ' H', Pc σ' H' → Go w D σ' H') : Go (Evl.tCut s w) D σ H := fun H1 e => ⟨Md Pc, h H1 e, fun σ' H' ⟨Hx, ex, p⟩ => R σ' Hx p H' ex⟩
theorem g1_forF {j : Nat} (h : EvK te σ H fun v Hx => ∃ (a : Addr) (xs : List V) (Pv : Nat → L2.St → Hp → Prop), v = .ref a ∧ SqL K Hx a xs ∧ Pv 0 σ Hx ∧ (∀ i σ' H', i ≤ xs.length → Pv i σ' H' → SqL K H' a xs) ∧
    (∀ i x σ' H', xs[i]? = some x → Pv i σ' H' → Go s { D with nx := Lp Pv (i + 1), ct := Lp Pv (i + 1), bk := D.nx } (σ'.set j (some x)) H') ∧ (∀ σ' H', Pv xs.length σ' H' → ∀ H1, Ex H' H1 → D.nx σ' H1)) : Go (tFor (iList K te) (gName j) s) D σ H := fun H1 e =>
  h H1 e _ fun v H2 ⟨Hx, ex, a, xs, Pv, ev, hq, h0, hl, hs, hd⟩ => ⟨a, ev, ⟨xs, ex_l ex hq⟩, for_list (Lp Pv) ⟨Hx, ex, h0⟩ (fun i σ' H' hi ⟨Hy, ey, p⟩ => ex_l ey (hl i σ' Hy hi p)) (fun i x σ' H' hi ⟨Hy, ey, p⟩ => hs i x σ' Hy hi p H' ey) (fun σ' H' ⟨Hy, ey, p⟩ => hd σ' Hy p H' ey)⟩

/-! ### what may raise -/
/-- a call that may raise, in a def that lets it out (E), in a try (by the slots) -/
def tCallX (sp : Sp) (E : XK) (tl : TA) : TE := tCall sp [] E tl
theorem peX {X : Cx} {sp : Sp} {E : XK} {tl : TA} {e : Expr} (h : PE X e (tCall sp [] E tl)) : PE X e (tCallX sp E tl) := h
theorem k_callX {sp : Sp} {E : XK} {tl : TA} (h : EvAK tl σ H fun vs Hx => Kc (fun H Q => sp vs H Q E) Hx P) : EvK (tCallX sp E tl) σ H P := fun H1 e Q k => h H1 e _ fun vs H2 ⟨Hx, ex, h2⟩ => by
  rw [List.append_nil]
  exact h2 H2 ex Q k
theorem k_callS {sp : Sp} {E : L2.St → XK} {tl : TA} (h : EvAK tl σ H fun vs Hx => Kc (fun H Q => sp vs H Q (E σ)) Hx P) : EvK (tCallS sp E tl) σ H P := kc_bind (f := fun vs H1 Q => sp vs H1 Q (E σ)) h
/-- what is wished of an exception at a heap that may have grown -/
def KE (E : XK) (c : Value) (d : Option Addr) (Hx : Hp) : Prop := ∀ H1, Ex Hx H1 → E c d H1
theorem KE.up {E : XK} {c : Value} {d : Option Addr} (h : KE E c d H) (e : Ex H H') : KE E c d H' := fun H1 a => h H1 (e.trans a)
/-- except c as n (slot i), the exception's class that clause's -/
theorem ke_as {c : Value} {i : Nat} {ts : Addr → Value → Option Addr → TS} {Wout : WX} {cls : Value} {d : Option Addr} (he : PySem.W.exmOne K cls c = some true)
    (h : ∀ a, H a = none → Go (ts a cls d) { nx := fun σ' H' => D.nx (σ'.set i none) H', rt := D.rt, bk := fun σ' H' => D.bk (σ'.set i none) H', ct := fun σ' H' => D.ct (σ'.set i none) H' } (σ.set i (some (.ref a))) H) : KE (WE (wAs K c i ts Wout D) σ) cls d H := fun H1 e =>
  ⟨true, he, fun _ a na => h a (fresh_back e na) H1 e, fun q => Bool.noConfusion q⟩
theorem ke_only {c : Value} {ts : Addr → Value → Option Addr → TS} {Wout : WX} {cls : Value} {d : Option Addr} (he : PySem.W.exmOne K cls c = some true)
    (h : ∀ a, H a = none → Go (ts a cls d) D σ H) : KE (WE (wOnly K c ts Wout D) σ) cls d H := fun H1 e => ⟨true, he, fun _ a na => h a (fresh_back e na) H1 e, fun q => Bool.noConfusion q⟩
/-- a suite that is only asked for exceptions of the class at C, made without a dict of their own -/
def tsD (C : Addr) (ts : Addr → TS) : Addr → Value → Option Addr → TS := fun a cls d Dn σ H => cls = .ref C ∧ d = none ∧ ts a Dn σ H
theorem suiteD {X : Cx} {C : Addr} {sts : List Stmt} {ts : Addr → TS} (h : ∀ (a : Addr) (oe : Obj) (pn : List (Addr × Obj)), Zc (.ref C) none oe → (∃ vs, oe.data = .fields vs) → PSs (X.suite a ((a, oe) :: pn)) sts (ts a)) :
    ∀ (a : Addr) (oe : Obj) (cls : Value) (d : Option Addr) (pn : List (Addr × Obj)), Zc cls d oe → (∃ vs, oe.data = .fields vs) → PSs (X.suite a ((a, oe) :: pn)) sts (tsD C ts a cls d) := fun a oe cls d pn hz hf =>
  ⟨fun pins s σ H Dn I hh => by
    obtain ⟨e1, e2, h2⟩ := hh
    subst e1 e2
    exact (h a oe pn hz hf).run pins s σ H Dn I h2⟩
theorem g_tsD {C a : Addr} {ts : Addr → TS} (h : Go (ts a) D σ H) : Go (tsD C ts a (.ref C) none) D σ H := fun H1 e => ⟨rfl, rfl, h H1 e⟩
theorem bIsE {X : Cx} {a C : Addr} {oe : Obj} {pn : List (Addr × Obj)} (CE : ExcC K C) (hz : Zc (.ref C) none oe) (hf : ∃ vs, oe.data = .fields vs) (h : X.K = K := by rfl) : CallR (X.suite a ((a, oe) :: pn)) (.builtin "isinstance") (rIsE K C a) := by
  subst h
  exact call_isE CE hz hf
theorem c_isE {C a D0 : Addr} {b : Bool} (hk : PySem.W.kitOne K (.ref C) (.ref D0) = some b) (hp : P (.bl b) H) : CK (rIsE K C a) [.ref a, .ref D0] H P := fun H1 e Q k => ⟨.ref D0, .ref D0, b, rfl, fun u r => r, hk, k _ _ ⟨H, e, hp⟩⟩
theorem c_isET {C a : Addr} {n : String} {b : Bool} (hk : PySem.W.kitOne K (.ref C) (.type n) = some b) (hp : P (.bl b) H) : CK (rIsE K C a) [.ref a, .ty n] H P := fun H1 e Q k => ⟨.ty n, .type n, b, rfl, fun u r => r, hk, k _ _ ⟨H, e, hp⟩⟩
/-- xs.insert(i, y), xs.pop(i), 0 ≤ i -/
theorem m_insert {l : Addr} {xs : List V} {j : Nat} (h : H l = some (.lst xs)) (hz : xs.length < 100000) (hj : j ≤ 100000) (hp : P .non (upd H l (.lst (xs.take j ++ [y] ++ xs.drop j)))) : MK (fun x vs H Q => ∃ (l : Addr) (xs : List V) (i : Int) (y : V), x = .ref l ∧ vs = [.int i, y] ∧ H l = some (.lst xs) ∧ xs.length < sizeLine ∧ 0 ≤ i ∧ i < 2 ^ 63 ∧ Q .non (upd H l (.lst (xs.take i.toNat ++ [y] ++ xs.drop i.toNat)))) (.ref l) [.int (j : Int), y] H P := fun H1 e Q k =>
  ⟨l, xs, (j : Int), y, rfl, rfl, e _ _ h, sz_lt hz, by omega, by omega, by
    rw [Int.toNat_natCast]
    exact k _ _ ⟨_, Ex.updm e, hp⟩⟩
theorem m_popAt {l : Addr} {xs : List V} {j : Nat} (h : H l = some (.lst xs)) (hz : xs.length < 100000) (hj : xs[j]? = some y) (hp : P y (upd H l (.lst (xs.eraseIdx j)))) : MK rPopAt (.ref l) [.int (j : Int)] H P := fun H1 e Q k => by
  have hlt := (List.getElem?_eq_some_iff.mp hj).1
  exact ⟨l, xs, (j : Int), j, y, rfl, rfl, e _ _ h, by omega, by omega, seqIndex_of (by omega) (by omega), hj, k _ _ ⟨_, Ex.updm e, hp⟩⟩
end
end Px

set_option Elab.async false
set_option linter.all false
/-! Pm: plain mathematics: rows in order, what the fullest hold together. -/
namespace Pm
/-- a row in order, the fullest first -/
def sd (ns : List Int) : List Int := ns.mergeSort fun a b => decide (b ≤ a)
theorem sd_perm (ns : List Int) : (sd ns).Perm ns := List.mergeSort_perm ns _
theorem sd_sorted (ns : List Int) : (sd ns).Pairwise (· ≥ ·) := by
  have h := List.pairwise_mergeSort (le := fun a b : Int => decide (b ≤ a)) (fun a b c h1 h2 => by
    have h1' := of_decide_eq_true h1
    have h2' := of_decide_eq_true h2
    exact decide_eq_true (by omega)) (fun a b => by
    by_cases h : b ≤ a
    · rw [decide_eq_true h]; rfl
    · have h2 : a ≤ b := by omega
      rw [decide_eq_true h2, Bool.or_true]) ns
  exact h.imp fun h => of_decide_eq_true h
theorem sd_uniq {l ns : List Int} (p : l.Perm ns) (s : l.Pairwise (· ≥ ·)) : l = sd ns :=
  List.Perm.eq_of_pairwise (le := (· ≥ ·)) (fun a b _ _ h1 h2 => by omega) s (sd_sorted ns) (p.trans (sd_perm ns).symm)
theorem sd_of_perm {a b : List Int} (p : a.Perm b) : sd a = sd b := sd_uniq ((sd_perm a).trans p) (sd_sorted a)
theorem sd_len (ns : List Int) : (sd ns).length = ns.length := (sd_perm ns).length_eq
theorem sd_reverse (ns : List Int) : sd ns.reverse = sd ns := sd_of_perm (List.reverse_perm ns)
theorem perm_sum {a b : List Int} (p : a.Perm b) : a.sum = b.sum := by
  induction p with
  | nil => rfl
  | cons x _ ih => rw [List.sum_cons, List.sum_cons, ih]
  | swap x y l => rw [List.sum_cons, List.sum_cons, List.sum_cons, List.sum_cons]; omega
  | trans _ _ h1 h2 => exact h1.trans h2
/-- the sums of the first k, for each k -/
def psums (l : List Int) : List Int := (List.range (l.length + 1)).map fun k => (l.take k).sum
def tops (ns : List Int) : List Int := psums (sd ns)
theorem psums_len (l : List Int) : (psums l).length = l.length + 1 := by unfold psums; rw [List.length_map, List.length_range]
theorem tops_len (l : List Int) : (tops l).length = l.length + 1 := by unfold tops; rw [psums_len, sd_len]
theorem take_more {α : Type} {l : List α} {i : Nat} {x : α} (h : l[i]? = some x) : l.take (i + 1) = l.take i ++ [x] := by
  rw [List.take_succ, h]; rfl
theorem sum_take {l : List Int} {i : Nat} {x : Int} (h : l[i]? = some x) : (l.take (i + 1)).sum = (l.take i).sum + x := by
  rw [take_more h, List.sum_append, List.sum_cons, List.sum_nil]; omega
theorem psums_get {l : List Int} {k : Nat} (h : k ≤ l.length) : (psums l)[k]? = some (l.take k).sum := by
  unfold psums
  rw [List.getElem?_map, List.getElem?_range (by omega)]
  rfl
theorem map_at {ns : List Int} {i : Nat} {x : L2.V} (h : (ns.map L2.V.int)[i]? = some x) : ∃ z, ns[i]? = some z ∧ x = L2.V.int z := by
  rw [List.getElem?_map] at h
  cases e : ns[i]? with
  | none => rw [e] at h; cases h
  | some z => rw [e] at h; exact ⟨z, rfl, (Option.some.inj h).symm⟩
theorem atI_map {ns : List Int} {k : Nat} {z : Int} (h : ns[k]? = some z) : L2.atI (ns.map L2.V.int) (k : Int) = some (L2.V.int z) := L2.atI_nat (by rw [List.getElem?_map, h]; rfl)
theorem range_getD {α : Type} (l : List Int) (f : Int → α) : (List.range l.length).map (fun i => f (l.getD i 0)) = l.map f := by
  apply List.ext_getElem
  · rw [List.length_map, List.length_range, List.length_map]
  · intro i h1 h2
    rw [List.length_map] at h2
    rw [List.getElem_map, List.getElem_map, List.getElem_range, List.getD_eq_getElem?_getD, List.getElem?_eq_getElem h2]
    rfl
open L2 Evl Px in
/-- sorted(xs, reverse=True) -/
theorem c_sortedRev {K : PySem.W.Frag} {H : Hp} {P : V → Hp → Prop} {a : PySem.Addr} {ns : List Int} (h : SqL K H a (ns.map V.int)) (hp : ∀ p, H p = none → P (.ref p) (upd H p (.lst ((sd ns).map V.int)))) : Kc (rSortedKw K true [.bl true] [.ref a] [.bl true]) H P := fun H1 e Q k =>
  ⟨a, ns, rfl, rfl, ex_l e h, fun ns' p hp' ho np => by
    have e2 : ns' = sd ns := sd_uniq hp' ho
    subst e2
    exact k _ _ ⟨_, Ex.updm e, hp p (fresh_back e np)⟩⟩

theorem atI_neg {α : Type} {l : List α} (h : 0 < l.length) : L2.atI l (-1) = l[l.length - 1]? := by
  unfold L2.atI L2.ixN
  rw [if_neg (by omega), if_pos (by omega)]
  show l[(-1 + (l.length : Int)).toNat]? = _
  congr 1
  omega
theorem atI_last {l : List Int} (h : 0 < l.length) : L2.atI (l.map L2.V.int) (-1) = some (L2.V.int (l.getD (l.length - 1) 0)) := by
  rw [atI_neg (by rw [List.length_map]; exact h), List.length_map, List.getElem?_map, List.getD_eq_getElem?_getD, List.getElem?_eq_getElem (by omega)]
  rfl

/-! ### sums -/
theorem rsum_succ (f : Nat → Int) (k : Nat) : ((List.range (k + 1)).map f).sum = ((List.range k).map f).sum + f k := by
  rw [List.range_succ, List.map_append, List.sum_append]
  show _ + (f k + 0) = _
  omega
theorem sum_ge {x : Int} : ∀ {l : List Int}, (∀ y ∈ l, x ≤ y) → (l.length : Int) * x ≤ l.sum
  | [], _ => by simp
  | a :: l, h => by
    have h1 := sum_ge (x := x) (l := l) fun y hy => h y (List.mem_cons_of_mem _ hy)
    have h2 := h a List.mem_cons_self
    rw [List.length_cons, List.sum_cons]
    have e : ((l.length + 1 : Nat) : Int) * x = (l.length : Int) * x + x := by
      rw [Int.natCast_add, Int.add_mul]
      show _ + 1 * x = _
      rw [Int.one_mul]
    omega
theorem sum_le {x : Int} : ∀ {l : List Int}, (∀ y ∈ l, y ≤ x) → l.sum ≤ (l.length : Int) * x
  | [], _ => by simp
  | a :: l, h => by
    have h1 := sum_le (x := x) (l := l) fun y hy => h y (List.mem_cons_of_mem _ hy)
    have h2 := h a List.mem_cons_self
    rw [List.length_cons, List.sum_cons]
    have e : ((l.length + 1 : Nat) : Int) * x = (l.length : Int) * x + x := by
      rw [Int.natCast_add, Int.add_mul]
      show _ + 1 * x = _
      rw [Int.one_mul]
    omega
theorem abs_sum {b : Nat} : ∀ {l : List Int}, (∀ y ∈ l, y.natAbs < b) → l.sum.natAbs ≤ l.length * b
  | [], _ => by simp
  | a :: l, h => by
    have h1 := abs_sum (b := b) (l := l) fun y hy => h y (List.mem_cons_of_mem _ hy)
    have h2 := h a List.mem_cons_self
    rw [List.length_cons, List.sum_cons, Nat.add_mul]
    omega
theorem sum_bd {b : Nat} {l : List Int} (h : ∀ y ∈ l, Px.Bd b y) (hl : l.length ≤ 100) : Px.Bd (b + 7) l.sum := by
  have h1 := abs_sum (b := 2 ^ b) h
  have h2 : l.length * 2 ^ b ≤ 100 * 2 ^ b := Nat.mul_le_mul_right _ hl
  unfold Px.Bd
  rw [Nat.pow_add]
  have h3 : 0 < 2 ^ b := Nat.pow_pos (by decide)
  omega
/-- the sum of the squares -/
def sq (l : List Int) : Int := (l.map fun x => x * x).sum
theorem sq_take {l : List Int} {i : Nat} {x : Int} (h : l[i]? = some x) : sq (l.take (i + 1)) = sq (l.take i) + x * x := by
  unfold sq
  rw [take_more h, List.map_append, List.sum_append]
  show _ + (x * x + 0) = _
  omega
theorem sq_bd {b : Nat} {l : List Int} (h : ∀ y ∈ l, Px.Bd b y) (hl : l.length ≤ 100) : Px.Bd (b + b + 7) (sq l) := sum_bd (fun y hy => by
  obtain ⟨x, hx, rfl⟩ := List.mem_map.mp hy
  exact (h x hx).mul (h x hx)) (by rw [List.length_map]; exact hl)
def spread (l : List Int) : Int := (l.length : Int) * sq l - l.sum * l.sum
theorem sq_perm {a b : List Int} (p : a.Perm b) : sq a = sq b := perm_sum (p.map _)
theorem spread_perm {a b : List Int} (p : a.Perm b) : spread a = spread b := by
  unfold spread
  rw [sq_perm p, perm_sum p, p.length_eq]
/-- the squared differences of x to each of l -/
def dsq (x : Int) (l : List Int) : Int := (l.map fun y => (x - y) * (x - y)).sum
theorem dsq_take {x : Int} {l : List Int} {i : Nat} {y : Int} (h : l[i]? = some y) : dsq x (l.take (i + 1)) = dsq x (l.take i) + (x - y) * (x - y) := by
  unfold dsq
  rw [take_more h, List.map_append, List.sum_append]
  show _ + ((x - y) * (x - y) + 0) = _
  omega
theorem dsq_eq (x : Int) : ∀ l : List Int, dsq x l = (l.length : Int) * (x * x) - 2 * x * l.sum + sq l
  | [] => by simp [dsq, sq]
  | y :: l => by
    have ih := dsq_eq x l
    have e1 : dsq x (y :: l) = (x - y) * (x - y) + dsq x l := by unfold dsq; rw [List.map_cons, List.sum_cons]
    have e2 : sq (y :: l) = y * y + sq l := by unfold sq; rw [List.map_cons, List.sum_cons]
    rw [e1, e2, ih, List.sum_cons, List.length_cons, Int.natCast_add]
    generalize l.sum = S
    generalize sq l = q
    generalize (l.length : Int) = n
    show _ = (n + 1) * (x * x) - _ + _
    grind
/-- all pairs, place by place -/
def pairs (l : List Int) : Nat → Int
  | 0 => 0
  | k + 1 => pairs l k + dsq (l.getD k 0) (l.take k)
theorem pairs_eq (l : List Int) : ∀ k, k ≤ l.length → pairs l k = (k : Int) * sq (l.take k) - (l.take k).sum * (l.take k).sum
  | 0, _ => by simp [pairs]
  | k + 1, h => by
    have ih := pairs_eq l k (by omega)
    have hx : l[k]? = some (l.getD k 0) := by
      rw [List.getD_eq_getElem?_getD, List.getElem?_eq_getElem (by omega)]
      rfl
    show pairs l k + dsq (l.getD k 0) (l.take k) = _
    rw [ih, dsq_eq, sq_take hx, sum_take hx, List.length_take, Nat.min_eq_left (by omega), Int.natCast_add]
    generalize (l.take k).sum = S
    generalize sq (l.take k) = q
    generalize l.getD k 0 = x
    generalize (k : Int) = n
    show _ = (n + 1) * _ - _
    grind
theorem pairs_all (l : List Int) : pairs l l.length = spread l := by
  rw [pairs_eq l _ (Nat.le_refl _), List.take_length]
  rfl
theorem getD_at {l : List Int} {i : Nat} (h : i < l.length) : l[i]? = some (l.getD i 0) := by
  rw [List.getD_eq_getElem?_getD, List.getElem?_eq_getElem h]
  rfl

/-! ### the level row -/
def lv (n : Nat) (s : Int) (k : Nat) : Int := s / (n : Int) + if (k : Int) < s % (n : Int) then 1 else 0
def level (n : Nat) (s : Int) : List Int := (List.range n).map (lv n s)
theorem level_len (n : Nat) (s : Int) : (level n s).length = n := by unfold level; rw [List.length_map, List.length_range]
theorem lv_sum {n : Nat} {s : Int} (h : 0 ≤ s % (n : Int)) : ∀ k : Nat, ((List.range k).map (lv n s)).sum = (k : Int) * (s / (n : Int)) + min (k : Int) (s % (n : Int))
  | 0 => by simp; omega
  | k + 1 => by
    rw [rsum_succ, lv_sum h k]
    unfold lv
    have e : ((k + 1 : Nat) : Int) * (s / (n : Int)) = (k : Int) * (s / (n : Int)) + s / (n : Int) := by
      rw [Int.natCast_add, Int.add_mul]
      show _ + 1 * _ = _
      rw [Int.one_mul]
    rw [e]
    split <;> omega
theorem level_take {n : Nat} {s : Int} {k : Nat} (h : k ≤ n) : (level n s).take k = (List.range k).map (lv n s) := by
  unfold level
  rw [← List.map_take, List.take_range, Nat.min_eq_left h]
theorem level_sum {n : Nat} {s : Int} (h : 0 < n) : (level n s).sum = s := by
  have h0 := Int.emod_nonneg s (show (n : Int) ≠ 0 by omega)
  have h1 := Int.emod_lt_of_pos s (show 0 < (n : Int) by omega)
  have e := lv_sum h0 n
  unfold level
  rw [e, Int.min_eq_right (by omega)]
  exact Int.mul_ediv_add_emod s n
theorem level_at {n : Nat} {s : Int} {k : Nat} (h : k < n) : (level n s)[k]? = some (lv n s k) := by
  unfold level
  rw [List.getElem?_map, List.getElem?_range h]
  rfl
theorem lv_mono {n : Nat} {s : Int} {i j : Nat} (h : i ≤ j) : lv n s j ≤ lv n s i := by
  unfold lv
  split <;> split <;> omega
theorem level_sorted (n : Nat) (s : Int) : (level n s).Pairwise (· ≥ ·) := by
  unfold level
  rw [List.pairwise_map]
  exact List.pairwise_lt_range.imp fun h => lv_mono (Nat.le_of_lt h)
theorem sd_level (n : Nat) (s : Int) : sd (level n s) = level n s := (sd_uniq (List.Perm.refl _) (level_sorted n s)).symm
theorem lv_sq {n : Nat} {s : Int} (h : 0 ≤ s % (n : Int)) : ∀ k : Nat, ((List.range k).map fun i => lv n s i * lv n s i).sum = (k : Int) * ((s / (n : Int)) * (s / (n : Int))) + min (k : Int) (s % (n : Int)) * (2 * (s / (n : Int)) + 1)
  | 0 => by
    have e : min ((0 : Nat) : Int) (s % (n : Int)) = 0 := by omega
    rw [e]
    simp
  | k + 1 => by
    rw [rsum_succ, lv_sq h k]
    unfold lv
    rw [Int.natCast_add]
    by_cases c : (k : Int) < s % (n : Int)
    · rw [if_pos c, Int.min_eq_left (by omega), Int.min_eq_left (by omega)]
      generalize s / (n : Int) = q
      generalize (k : Int) = m
      show _ = (m + 1) * _ + (m + 1) * _
      grind
    · rw [if_neg c, Int.min_eq_right (by omega), Int.min_eq_right (by omega)]
      generalize s / (n : Int) = q
      generalize s % (n : Int) = r
      generalize (k : Int) = m
      show _ = (m + 1) * _ + _
      grind
theorem spread_level {n : Nat} {s : Int} (h : 0 < n) : spread (level n s) = s % (n : Int) * ((n : Int) - s % (n : Int)) := by
  have h0 := Int.emod_nonneg s (show (n : Int) ≠ 0 by omega)
  have h1 := Int.emod_lt_of_pos s (show 0 < (n : Int) by omega)
  have e1 : sq (level n s) = (n : Int) * ((s / (n : Int)) * (s / (n : Int))) + s % (n : Int) * (2 * (s / (n : Int)) + 1) := by
    unfold sq level
    rw [List.map_map]
    have e := lv_sq h0 n
    rw [Int.min_eq_right (by omega)] at e
    exact e
  unfold spread
  rw [e1, level_sum h, level_len]
  have e2 := Int.mul_ediv_add_emod s n
  generalize s / (n : Int) = q at *
  generalize s % (n : Int) = r at *
  generalize (n : Int) = m at *
  subst e2
  grind
theorem spread_nil : spread [] = 0 := rfl
/-- no k of the fullest hold less than the level row's -/
theorem level_below {l : List Int} (hs : l.Pairwise (· ≥ ·)) {k : Nat} (hk : k ≤ l.length) : ((level l.length l.sum).take k).sum ≤ (l.take k).sum := by
  rw [level_take hk]
  cases k with
  | zero => simp
  | succ m =>
    have hn : (l.length : Int) ≠ 0 := by omega
    have h0 := Int.emod_nonneg l.sum hn
    have h1 := Int.emod_lt_of_pos l.sum (show 0 < (l.length : Int) by omega)
    rw [lv_sum h0]
    have e2 := Int.mul_ediv_add_emod l.sum l.length
    have hx := getD_at (l := l) (i := m) (by omega)
    generalize l.getD m 0 = x at hx
    have htd : l.take (m + 1) ++ l.drop (m + 1) = l := List.take_append_drop _ _
    have hsum : (l.take (m + 1)).sum + (l.drop (m + 1)).sum = l.sum := by
      rw [← List.sum_append, htd]
    have hp : ∀ i j (a b : Int), i < j → l[i]? = some a → l[j]? = some b → b ≤ a := fun i j a b hij ha hb => by
      obtain ⟨h3, rfl⟩ := List.getElem?_eq_some_iff.mp ha
      obtain ⟨h4, rfl⟩ := List.getElem?_eq_some_iff.mp hb
      exact List.pairwise_iff_getElem.mp hs i j h3 h4 hij
    have g1 : ∀ y ∈ l.take (m + 1), x ≤ y := fun y hy => by
      obtain ⟨i, hi⟩ := List.mem_iff_getElem?.mp hy
      rw [List.getElem?_take] at hi
      split at hi
      · rename_i c
        by_cases e : i = m
        · subst e
          rw [hx] at hi
          have := Option.some.inj hi
          omega
        · exact hp i m y x (by omega) hi hx
      · cases hi
    have g2 : ∀ y ∈ l.drop (m + 1), y ≤ x := fun y hy => by
      obtain ⟨i, hi⟩ := List.mem_iff_getElem?.mp hy
      rw [List.getElem?_drop] at hi
      exact hp m (m + 1 + i) x y (by omega) hx hi
    have s1 := sum_ge g1
    have s2 := sum_le g2
    rw [List.length_take, Nat.min_eq_left (by omega)] at s1
    rw [List.length_drop] at s2
    generalize l.sum / (l.length : Int) = q at *
    generalize l.sum % (l.length : Int) = r at *
    generalize (l.take (m + 1)).sum = T at *
    generalize (l.drop (m + 1)).sum = U at *
    have hd : ((l.length - (m + 1) : Nat) : Int) = (l.length : Int) - ((m + 1 : Nat) : Int) := by omega
    rw [hd] at s2
    have hkn : 0 ≤ (l.length : Int) - ((m + 1 : Nat) : Int) := by omega
    have hk0 : 0 ≤ ((m + 1 : Nat) : Int) := by omega
    generalize ((m + 1 : Nat) : Int) = K at *
    generalize (l.length : Int) = N at *
    by_cases c : q + 1 ≤ x
    · have e4 : K * (q + 1) ≤ K * x := Int.mul_le_mul_of_nonneg_left c hk0
      rw [Int.mul_add, Int.mul_one] at e4
      omega
    · have e4 : (N - K) * x ≤ (N - K) * q := Int.mul_le_mul_of_nonneg_left (by omega) hkn
      rw [Int.sub_mul (c := q)] at e4
      omega
theorem tops_at {l : List Int} {k : Nat} (h : k ≤ l.length) : (tops l)[k]? = some ((sd l).take k).sum := psums_get (by rw [sd_len]; exact h)
theorem tops_level_le {l : List Int} {k : Nat} {x y : Int} (hx : (tops (level l.length l.sum))[k]? = some x) (hy : (tops l)[k]? = some y) : x ≤ y := by
  have hk : k ≤ l.length := by
    have h := (List.getElem?_eq_some_iff.mp hy).1
    rw [tops_len] at h
    omega
  rw [tops_at hk] at hy
  rw [tops_at (by rw [level_len]; exact hk), sd_level] at hx
  have e1 := Option.some.inj hx
  have e2 := Option.some.inj hy
  have h := level_below (sd_sorted l) (k := k) (by rw [sd_len]; exact hk)
  rw [sd_len, perm_sum (sd_perm l)] at h
  omega
theorem rest0 (ms : List Int) : 0 ≤ ms.sum % (ms.length : Int) := by
  cases ms with
  | nil => decide
  | cons a l => exact Int.emod_nonneg _ (by rw [List.length_cons]; omega)
theorem restn (ms : List Int) : min (ms.length : Int) (ms.sum % (ms.length : Int)) = ms.sum % (ms.length : Int) := by
  cases ms with
  | nil => decide
  | cons a l => exact Int.min_eq_right (Int.le_of_lt (Int.emod_lt_of_pos _ (by rw [List.length_cons]; omega)))
theorem spread_level' (ms : List Int) : spread (level ms.length ms.sum) = ms.sum % (ms.length : Int) * ((ms.length : Int) - ms.sum % (ms.length : Int)) := by
  cases ms with
  | nil => decide
  | cons a l => exact spread_level (by rw [List.length_cons]; omega)
/-- one more that holds more than the last -/
theorem more_step {ms : List Int} {i : Nat} (hi : i < ms.length) : min (i : Int) (ms.sum % (ms.length : Int)) + (if decide (lv ms.length ms.sum (ms.length - 1) < lv ms.length ms.sum i) = true then 1 else 0) = min ((i + 1 : Nat) : Int) (ms.sum % (ms.length : Int)) := by
  have h1 := Int.emod_lt_of_pos ms.sum (show 0 < (ms.length : Int) by omega)
  have h0 := rest0 ms
  unfold lv
  rw [if_neg (show ¬ ((ms.length - 1 : Nat) : Int) < ms.sum % (ms.length : Int) by omega)]
  by_cases c : (i : Int) < ms.sum % (ms.length : Int)
  · rw [if_pos c, decide_eq_true (by omega), if_pos rfl]
    omega
  · rw [if_neg c, decide_eq_false (by omega), if_neg Bool.false_ne_true]
    omega
end Pm

set_option Elab.async false
set_option linter.all false
/-! Pg: plain mathematics: gifts, walks, what they do to the tops and to the spread. -/
namespace Pg
open Pm
/-- does the gift (g, t, d) fit the row -/
structure Fits (ns : List Int) (g t d : Int) : Prop where
  d1 : 1 ≤ d
  g0 : 0 ≤ g
  gn : g < (ns.length : Int)
  t0 : 0 ≤ t
  tn : t < (ns.length : Int)
  more : d ≤ ns.getD g.toNat 0 - ns.getD t.toNat 0
def fitsB (ns : List Int) (g t d : Int) : Bool := decide (1 ≤ d) && decide (0 ≤ g) && decide (g < (ns.length : Int)) && decide (0 ≤ t) && decide (t < (ns.length : Int)) && decide (d ≤ ns.getD g.toNat 0 - ns.getD t.toNat 0)
theorem fitsB_iff {ns : List Int} {g t d : Int} : fitsB ns g t d = true ↔ Fits ns g t d := by
  unfold fitsB
  simp only [Bool.and_eq_true, decide_eq_true_eq]
  exact ⟨fun ⟨⟨⟨⟨⟨a, b⟩, c⟩, d⟩, e⟩, f⟩ => ⟨a, b, c, d, e, f⟩, fun ⟨a, b, c, d, e, f⟩ => ⟨⟨⟨⟨⟨a, b⟩, c⟩, d⟩, e⟩, f⟩⟩
theorem fitsB_not {ns : List Int} {g t d : Int} (h : ¬ Fits ns g t d) : fitsB ns g t d = false := by
  cases e : fitsB ns g t d with
  | false => rfl
  | true => exact absurd (fitsB_iff.mp e) h
/-- the row behind the gift -/
def done (ns : List Int) (g t d : Int) : List Int := (ns.set g.toNat (ns.getD g.toNat 0 - d)).set t.toNat (ns.getD t.toNat 0 + d)
theorem done_len (ns : List Int) (g t d : Int) : (done ns g t d).length = ns.length := by unfold done; rw [List.length_set, List.length_set]
theorem Fits.ne {ns : List Int} {g t d : Int} (h : Fits ns g t d) : g.toNat ≠ t.toNat := fun e => by
  have h1 := h.more
  have h2 := h.d1
  rw [e] at h1
  omega
theorem getD_set_ne {l : List Int} {i j : Nat} {x : Int} (h : i ≠ j) : (l.set i x).getD j 0 = l.getD j 0 := by
  rw [List.getD_eq_getElem?_getD, List.getD_eq_getElem?_getD, List.getElem?_set_ne h]
theorem msum_set (f : Int → Int) : ∀ (l : List Int) (i : Nat) (x : Int), i < l.length → ((l.set i x).map f).sum = (l.map f).sum - f (l.getD i 0) + f x
  | [], i, x, h => absurd h (Nat.not_lt_zero _)
  | a :: l, 0, x, _ => by
    show f x + (l.map f).sum = f a + (l.map f).sum - f a + f x
    omega
  | a :: l, i + 1, x, h => by
    have ih := msum_set f l i x (by simpa using h)
    show f a + ((l.set i x).map f).sum = f a + (l.map f).sum - f (l.getD i 0) + f x
    rw [ih]
    omega
/-- what a gift does to a sum over the purses -/
theorem msum_done (f : Int → Int) {ns : List Int} {g t d : Int} (h : Fits ns g t d) : ((done ns g t d).map f).sum = (ns.map f).sum - f (ns.getD g.toNat 0) - f (ns.getD t.toNat 0) + f (ns.getD g.toNat 0 - d) + f (ns.getD t.toNat 0 + d) := by
  have h1 := h.g0
  have h2 := h.gn
  have h3 := h.t0
  have h4 := h.tn
  unfold done
  rw [msum_set f _ _ _ (by rw [List.length_set]; omega), msum_set f _ _ _ (by omega), getD_set_ne h.ne]
  omega
theorem sum_done {ns : List Int} {g t d : Int} (h : Fits ns g t d) : (done ns g t d).sum = ns.sum := by
  have e := msum_done (fun x => x) h
  rw [List.map_id', List.map_id'] at e
  omega
theorem sq_done {ns : List Int} {g t d : Int} (h : Fits ns g t d) : sq (done ns g t d) = sq ns - 2 * d * (ns.getD g.toNat 0 - ns.getD t.toNat 0 - d) := by
  have e := msum_done (fun x => x * x) h
  unfold sq
  rw [e]
  generalize ns.getD g.toNat 0 = a
  generalize ns.getD t.toNat 0 = b
  grind
theorem spread_done {ns : List Int} {g t d : Int} (h : Fits ns g t d) : spread ns - spread (done ns g t d) = 2 * (ns.length : Int) * d * ((ns.getD g.toNat 0 - ns.getD t.toNat 0) - d) := by
  unfold spread
  rw [done_len, sum_done h, sq_done h]
  generalize ns.getD g.toNat 0 = a
  generalize ns.getD t.toNat 0 = b
  generalize sq ns = q
  generalize ns.sum * ns.sum = s
  generalize (ns.length : Int) = n
  grind
/-- what is held above c -/
def ab (c x : Int) : Int := max 0 (x - c)
def F (c : Int) (ns : List Int) : Int := (ns.map (ab c)).sum
theorem F_perm {a b : List Int} (c : Int) (p : a.Perm b) : F c a = F c b := perm_sum (p.map _)
theorem F_app (c : Int) (a b : List Int) : F c (a ++ b) = F c a + F c b := by unfold F; rw [List.map_append, List.sum_append]
theorem F_nonneg (c : Int) : ∀ l : List Int, 0 ≤ F c l
  | [] => by simp [F]
  | x :: l => by
    have ih := F_nonneg c l
    have e : F c (x :: l) = ab c x + F c l := by unfold F; rw [List.map_cons, List.sum_cons]
    unfold ab at e
    omega
theorem F_ge (c : Int) : ∀ l : List Int, l.sum ≤ (l.length : Int) * c + F c l
  | [] => by simp [F]
  | x :: l => by
    have ih := F_ge c l
    have e : F c (x :: l) = ab c x + F c l := by unfold F; rw [List.map_cons, List.sum_cons]
    have e2 : ((l.length + 1 : Nat) : Int) * c = (l.length : Int) * c + c := by
      rw [Int.natCast_add, Int.add_mul]
      show _ + 1 * c = _
      rw [Int.one_mul]
    rw [List.sum_cons, List.length_cons, e, e2]
    unfold ab
    omega
theorem F_above {c : Int} : ∀ {l : List Int}, (∀ x ∈ l, c ≤ x) → F c l = l.sum - (l.length : Int) * c
  | [], _ => by simp [F]
  | x :: l, h => by
    have ih := F_above (c := c) (l := l) fun y hy => h y (List.mem_cons_of_mem _ hy)
    have h1 := h x List.mem_cons_self
    have e : F c (x :: l) = ab c x + F c l := by unfold F; rw [List.map_cons, List.sum_cons]
    have e2 : ((l.length + 1 : Nat) : Int) * c = (l.length : Int) * c + c := by
      rw [Int.natCast_add, Int.add_mul]
      show _ + 1 * c = _
      rw [Int.one_mul]
    rw [List.sum_cons, List.length_cons, e, e2, ih]
    unfold ab
    omega
theorem F_below {c : Int} : ∀ {l : List Int}, (∀ x ∈ l, x ≤ c) → F c l = 0
  | [], _ => by simp [F]
  | x :: l, h => by
    have ih := F_below (c := c) (l := l) fun y hy => h y (List.mem_cons_of_mem _ hy)
    have h1 := h x List.mem_cons_self
    have e : F c (x :: l) = ab c x + F c l := by unfold F; rw [List.map_cons, List.sum_cons]
    rw [e, ih]
    unfold ab
    omega
/-- the k fullest, by what is held above c -/
theorem top_le (c : Int) (l : List Int) {k : Nat} (hk : k ≤ l.length) : (l.take k).sum ≤ (k : Int) * c + F c l := by
  have h1 := F_ge c (l.take k)
  have h2 := F_nonneg c (l.drop k)
  have h3 := F_app c (l.take k) (l.drop k)
  rw [List.take_append_drop] at h3
  rw [List.length_take, Nat.min_eq_left hk] at h1
  omega
theorem sorted_at {l : List Int} (hs : l.Pairwise (· ≥ ·)) {i j : Nat} {a b : Int} (hij : i < j) (ha : l[i]? = some a) (hb : l[j]? = some b) : b ≤ a := by
  obtain ⟨h3, rfl⟩ := List.getElem?_eq_some_iff.mp ha
  obtain ⟨h4, rfl⟩ := List.getElem?_eq_some_iff.mp hb
  exact List.pairwise_iff_getElem.mp hs i j h3 h4 hij
theorem top_eq {l : List Int} (hs : l.Pairwise (· ≥ ·)) {m : Nat} {c : Int} (hc : l[m]? = some c) : (l.take (m + 1)).sum = ((m + 1 : Nat) : Int) * c + F c l := by
  have hm : m < l.length := (List.getElem?_eq_some_iff.mp hc).1
  have g1 : ∀ y ∈ l.take (m + 1), c ≤ y := fun y hy => by
    obtain ⟨i, hi⟩ := List.mem_iff_getElem?.mp hy
    rw [List.getElem?_take] at hi
    split at hi
    · rename_i z
      by_cases e : i = m
      · subst e
        rw [hc] at hi
        have := Option.some.inj hi
        omega
      · exact sorted_at hs (show i < m by omega) hi hc
    · cases hi
  have g2 : ∀ y ∈ l.drop (m + 1), y ≤ c := fun y hy => by
    obtain ⟨i, hi⟩ := List.mem_iff_getElem?.mp hy
    rw [List.getElem?_drop] at hi
    exact sorted_at hs (show m < m + 1 + i by omega) hc hi
  have h1 := F_above g1
  have h2 := F_below g2
  have h3 := F_app c (l.take (m + 1)) (l.drop (m + 1))
  rw [List.take_append_drop] at h3
  rw [List.length_take, Nat.min_eq_left (by omega)] at h1
  omega
/-- majorized: as many, and no more above any level -/
def Le (ms ns : List Int) : Prop := ms.length = ns.length ∧ ∀ c, F c ms ≤ F c ns
theorem Le.refl (a : List Int) : Le a a := ⟨rfl, fun _ => Int.le_refl _⟩
theorem Le.trans {a b c : List Int} (h : Le a b) (k : Le b c) : Le a c := ⟨h.1.trans k.1, fun x => Int.le_trans (h.2 x) (k.2 x)⟩
theorem Le.tops {ms ns : List Int} (h : Le ms ns) {k : Nat} (hk : k ≤ ns.length) : ((sd ms).take k).sum ≤ ((sd ns).take k).sum := by
  cases k with
  | zero => simp
  | succ m =>
    have hx := getD_at (l := sd ns) (i := m) (by rw [sd_len]; omega)
    generalize (sd ns).getD m 0 = c at hx
    have h1 := top_eq (sd_sorted ns) hx
    have h2 := top_le c (sd ms) (k := m + 1) (by rw [sd_len, h.1]; exact hk)
    have h3 := h.2 c
    rw [F_perm c (sd_perm ns)] at h1
    rw [F_perm c (sd_perm ms)] at h2
    omega
theorem Le.of_tops {ms ns : List Int} (hl : ms.length = ns.length) (h : ∀ k, k ≤ ns.length → ((sd ms).take k).sum ≤ ((sd ns).take k).sum) : Le ms ns := by
  refine ⟨hl, fun c => ?_⟩
  -- take k: how many of ms hold more than c
  have hms : ∀ l : List Int, l.Pairwise (· ≥ ·) → ∃ k, k ≤ l.length ∧ F c l = (l.take k).sum - (k : Int) * c := by
    intro l
    induction l with
    | nil => intro _; exact ⟨0, Nat.le_refl _, by simp [F]⟩
    | cons x l ih =>
      intro hp
      obtain ⟨h1, h2⟩ := List.pairwise_cons.mp hp
      by_cases hx : c ≤ x
      · obtain ⟨k, hk, e⟩ := ih h2
        refine ⟨k + 1, by rw [List.length_cons]; omega, ?_⟩
        have e3 : F c (x :: l) = ab c x + F c l := by unfold F; rw [List.map_cons, List.sum_cons]
        have e2 : ((k + 1 : Nat) : Int) * c = (k : Int) * c + c := by
          rw [Int.natCast_add, Int.add_mul]
          show _ + 1 * c = _
          rw [Int.one_mul]
        rw [e3, e, List.take_succ_cons, List.sum_cons, e2]
        unfold ab
        omega
      · refine ⟨0, Nat.zero_le _, ?_⟩
        have e4 : F c (x :: l) = 0 := F_below fun y hy => by
          rcases List.mem_cons.mp hy with rfl | hy
          · omega
          · have h3 := h1 y hy
            omega
        rw [e4]
        simp
  obtain ⟨k, hk, e⟩ := hms _ (sd_sorted ms)
  rw [sd_len] at hk
  rw [F_perm c (sd_perm ms)] at e
  have h2 := top_le c (sd ns) (k := k) (by rw [sd_len]; omega)
  rw [F_perm c (sd_perm ns)] at h2
  have h3 := h k (by omega)
  omega
theorem le_done {ns : List Int} {g t d : Int} (h : Fits ns g t d) : Le (done ns g t d) ns := by
  refine ⟨done_len _ _ _ _, fun c => ?_⟩
  have e := msum_done (ab c) h
  unfold F
  rw [e]
  have h1 := h.more
  have h2 := h.d1
  unfold ab
  omega
theorem le_level (ns : List Int) : Le (level ns.length ns.sum) ns := Le.of_tops (level_len _ _) fun k hk => by
  rw [sd_level]
  have h := level_below (sd_sorted ns) (k := k) (by rw [sd_len]; exact hk)
  rw [sd_len, perm_sum (sd_perm ns)] at h
  exact h
theorem bd_done {n : Nat} {ns : List Int} {g t d : Int} (h : Fits ns g t d) (hb : ∀ z ∈ ns, Px.Bd n z) : ∀ z ∈ done ns g t d, Px.Bd n z := by
  have h1 := h.g0
  have h2 := h.gn
  have h3 := h.t0
  have h4 := h.tn
  have h5 := h.more
  have h6 := h.d1
  have b1 : Px.Bd n (ns.getD g.toNat 0) := hb _ (by
    have e := getD_at (l := ns) (i := g.toNat) (by omega)
    exact List.mem_of_getElem? e)
  have b2 : Px.Bd n (ns.getD t.toNat 0) := hb _ (by
    have e := getD_at (l := ns) (i := t.toNat) (by omega)
    exact List.mem_of_getElem? e)
  intro z hz
  unfold done at hz
  rcases List.mem_or_eq_of_mem_set hz with hz | rfl
  · rcases List.mem_or_eq_of_mem_set hz with hz | rfl
    · exact hb z hz
    · unfold Px.Bd at *
      omega
  · unfold Px.Bd at *
    omega
/-- a list of gifts, one by one -/
abbrev Gift := Int × Int × Int
def walk : List Int → List Gift → Option (List Int)
  | ns, [] => some ns
  | ns, (g, t, d) :: r => if fitsB ns g t d = true then walk (done ns g t d) r else none
theorem walk_app : ∀ (ns : List Int) (a b : List Gift), walk ns (a ++ b) = (walk ns a).bind fun ms => walk ms b
  | ns, [], b => rfl
  | ns, (g, t, d) :: a, b => by
    show (if fitsB ns g t d = true then walk (done ns g t d) (a ++ b) else none) = (if fitsB ns g t d = true then walk (done ns g t d) a else none).bind _
    by_cases h : fitsB ns g t d = true
    · rw [if_pos h, if_pos h]
      exact walk_app _ a b
    · rw [if_neg h, if_neg h]
      rfl
theorem walk_one {ns : List Int} {g t d : Int} (h : Fits ns g t d) : walk ns [(g, t, d)] = some (done ns g t d) := by
  show (if fitsB ns g t d = true then some (done ns g t d) else none) = _
  rw [if_pos (fitsB_iff.mpr h)]
theorem walk_bad {ns : List Int} {g t d : Int} {r : List Gift} (h : ¬ Fits ns g t d) : walk ns ((g, t, d) :: r) = none := by
  show (if fitsB ns g t d = true then walk (done ns g t d) r else none) = none
  rw [if_neg fun z => h (fitsB_iff.mp z)]
theorem walk_snoc {ns ms : List Int} {a : List Gift} {g t d : Int} (h : walk ns a = some ms) (k : Fits ms g t d) : walk ns (a ++ [(g, t, d)]) = some (done ms g t d) := by
  rw [walk_app, h]
  exact walk_one k
theorem walk_stop {ns ms : List Int} {a b : List Gift} {g t d : Int} (h : walk ns a = some ms) (k : ¬ Fits ms g t d) : walk ns (a ++ (g, t, d) :: b) = none := by
  rw [walk_app, h]
  exact walk_bad k
theorem walk_len : ∀ {ns ms : List Int} {a : List Gift}, walk ns a = some ms → ms.length = ns.length
  | ns, ms, [], h => by
    have e : ns = ms := Option.some.inj h
    rw [e]
  | ns, ms, (g, t, d) :: a, h => by
    have h2 : (if fitsB ns g t d = true then walk (done ns g t d) a else none) = some ms := h
    split at h2
    · rw [walk_len h2, done_len]
    · cases h2
theorem walk_le : ∀ {ns ms : List Int} {a : List Gift}, walk ns a = some ms → Le ms ns ∧ ms.sum = ns.sum
  | ns, ms, [], h => by
    have e : ns = ms := Option.some.inj h
    rw [e]
    exact ⟨Le.refl _, rfl⟩
  | ns, ms, (g, t, d) :: a, h => by
    have h2 : (if fitsB ns g t d = true then walk (done ns g t d) a else none) = some ms := h
    split at h2
    · rename_i c
      have f := fitsB_iff.mp c
      have h3 := walk_le h2
      exact ⟨h3.1.trans (le_done f), h3.2.trans (sum_done f)⟩
    · cases h2
end Pg

set_option Elab.async false
set_option linter.all false
set_option maxRecDepth 100000
set_option maxHeartbeats 4000000
/-! Pr: list(reversed(xs)). -/
namespace RT
open PySem PySem.Spec PyProof.Rows L2
section
variable {prog : Program} {w : World} {A : Around} {E : Value → Shared → Prop} {s : Shared}
theorem extend_rev {R : Result → Shared → Prop} {it l : Addr} {items : Array Value} {c₀ : Nat} (hh : A.handled = none) (hit : s.heap.IsRevIter it l ((items.size : Int) - 1)) (hl : s.heap.IsList l items) (hne : l ≠ it) (hn : items.size ≤ sizeLine)
    (S : Addr) (hSi : S ≠ it) (hSl : S ≠ l) (res : Value) (hS : s.heap.get? S = some { cls := .type "list", dict := none, data := .seq #[] c₀, slots := #[] })
    (hR : ∀ (h' : Heap) (tk : Nat) (acc : Array Value) (c' : Nat), (∀ b o, b ≠ it → b ≠ S → s.heap.get? b = some o → h'.get? b = some o) → h'.get? S = some { cls := .type "list", dict := none, data := .seq acc c', slots := #[] } →
      ItemsOf (fun i v => items[items.size - 1 - i]? = some v) acc items.size → R (.ok (.ret res)) { s with heap := h', toks := tk }) :
    wpAny (model prog w) A.in1 (Builtin.List.listExtendWith (.ref S) (.ref it) res)
      (fun fin s' => match fin with | .done f => R (.ok f) s' | .again c' => c'.quiet = true ∧ codeAny (model prog w) A c' R s') (fun e s' => R (.error e) s') s := by
  have W := (Walks.listRev (prog := prog) (w := w) (A := A.in1) hh it l hne items).toS
  have hSf : S ∉ [it, l] := by simp only [List.mem_cons, List.not_mem_nil, or_false, not_or]; exact ⟨hSi, hSl⟩
  have hT : s.TypeIs (.ref it) "list_reverseiterator" := Heap.IsRevIter.typeIs hit
  have h1 : Builtin.List.listSameRef (.ref S) (.ref it) = false := by simp [Builtin.List.listSameRef, hSi]
  unfold Builtin.List.listExtendWith
  refine wpAny_bind (wpAny_typeOf hT ?_)
  rw [if_neg (by rw [h1]; decide)]
  refine wpAny_bind (wpAny_pyIter_revIter hit ?_)
  refine wpAny_bind (wpAny_holding ?_)
  unfold Builtin.List.listLengthHint
  refine wpAny_bind (wpAny_specialOf hT nolen_lri ?_)
  show wpAny _ A.in1 (specialOf (Value.ref it) (Str.ofString "__length_hint__") >>= _) _ _ _
  refine wpAny_bind (wpAny_specialOf hT hint_lri ?_)
  generalize hid : ("list_reverseiterator.__length_hint__" : String) = id0
  wp_delta
  rw [show splitId id0 = some ("list_reverseiterator", "__length_hint__") from by subst hid; decide +kernel]
  subst hid
  refine wpAny_bind (wpAny_isInstance (b := true) hT (by rw [isSubtype_type]; kernel_rfl) ?_)
  refine wpAny_pure ?_
  rw [if_neg (by decide)]
  have e0 : ((items.size : Nat) : Int) - 1 - ((0 : Nat) : Int) = (items.size : Int) - 1 := by omega
  refine wpAny_pure ⟨plainId_quiet F.plain_extend_loop _, codeAny_extend_loopS W hn _ hSf _ items.size 0 _ _ _ rfl (Nat.zero_le _) ⟨Nat.zero_le _, by rw [e0]; exact hit, hl⟩ hS (ItemsOf.nil _) fun s' acc' c' hm hS' hacc => ?_⟩
  rw [Moved.eq_with hm]
  refine hR s'.heap s'.toks acc' c' (fun b o hb hb2 e => hm.heap b o (fun hmem => ?_) e) hS' hacc
  rcases List.mem_cons.mp hmem with e' | hmem
  · exact hb2 e'
  · exact hb (List.mem_singleton.mp hmem)
theorem list_init_rev {R : Result → Shared → Prop} {it l : Addr} {items : Array Value} (hh : A.handled = none) (hit : s.heap.IsRevIter it l ((items.size : Int) - 1)) (hl : s.heap.IsList l items) (hne : l ≠ it) (hn : items.size ≤ sizeLine)
    (S : Addr) (hSi : S ≠ it) (hSl : S ≠ l) (hS : s.heap.get? S = some { cls := .type "list", data := .seq #[] })
    (hR : ∀ (h' : Heap) (tk : Nat) (acc : Array Value) (c' : Nat), (∀ b o, b ≠ it → b ≠ S → s.heap.get? b = some o → h'.get? b = some o) → h'.get? S = some { cls := .type "list", dict := none, data := .seq acc c', slots := #[] } →
      ItemsOf (fun i v => items[items.size - 1 - i]? = some v) acc items.size → R (.ok (.ret .none)) { s with heap := h', toks := tk }) :
    wpAny (model prog w) A.in1 (Builtin.«list.__init__» ⟨[.ref S, .ref it], []⟩)
      (fun fin s' => match fin with | .done f => R (.ok f) s' | .again c' => c'.quiet = true ∧ codeAny (model prog w) A c' R s') (fun e s' => R (.error e) s') s := by
  show wpAny _ _ (do let old ← Builtin.List.listItems (.ref S); Builtin.List.listUpdate (.ref S) (fun _ => #[]); letGo old.toList.reverse; Builtin.List.listExtendWith (.ref S) (.ref it) .none) _ _ s
  refine wpAny_bind ?_
  unfold Builtin.List.listItems
  refine wpAny_bind (wpAny_seqItems hS rfl (wpAny_pure ?_))
  show wpAny _ _ (updateSeq S (fun _ => #[]) >>= fun _ => letGo (#[] : Array Value).toList.reverse >>= fun _ => Builtin.List.listExtendWith (.ref S) (.ref it) .none) _ _ s
  refine wpAny_bind (wpAny_updateSeq hS rfl ?_)
  have hS₂ := Heap.get?_update_self (Obj.mapSeq (fun _ => (#[] : Array Value))) hS rfl
  have oth : ∀ b o, b ≠ S → s.heap.get? b = some o → (s.heap.update S (Obj.mapSeq (fun _ => (#[] : Array Value)))).get? b = some o :=
    fun b o hb e => (Heap.get?_update_other _ _ (Ne.symm hb)).trans e
  refine wpAny_bind (wpAny_letGo ?_)
  have hl2 : (s.heap.update S (Obj.mapSeq (fun _ => (#[] : Array Value)))).IsList l items := by
    obtain ⟨o, ho, r⟩ := hl
    exact ⟨o, oth l o (Ne.symm hSl) ho, r⟩
  refine extend_rev (s := { s with heap := s.heap.update S (Obj.mapSeq (fun _ => (#[] : Array Value))) }) hh (hit.at fun o e => oth it o (Ne.symm hSi) e) hl2 hne hn S hSi hSl .none hS₂ fun h' tk acc' c' hk hS' hacc => ?_
  exact hR h' tk acc' c' (fun b o hb hb2 e => hk b o hb hb2 (oth b o hb2 e)) hS' hacc
theorem call_list_rev {Q : Value → Shared → Prop} {it l : Addr} {items : Array Value} (hh : A.handled = none) (hit : s.heap.IsRevIter it l ((items.size : Int) - 1)) (hl : s.heap.IsList l items) (hne : l ≠ it) (hn : items.size ≤ sizeLine)
    (hQ : ∀ (h' : Heap) (tk : Nat) (acc : Array Value) (c' : Nat), (∀ b o, b ≠ it → s.heap.get? b = some o → h'.get? b = some o) → h'.get? s.heap.objs.size = some { cls := .type "list", dict := none, data := .seq acc c', slots := #[] } →
      ItemsOf (fun i v => items[items.size - 1 - i]? = some v) acc items.size → Q (.ref s.heap.objs.size) { s with heap := h', toks := tk }) :
    wpAny (model prog w) A (call (.type "list") [.ref it]) Q E s := by
  refine callType_codes (Q₁ := fun obj s₁ => obj = .ref s.heap.objs.size ∧ s₁ = { s with heap := s.heap.push { cls := .type "list", data := .seq #[] } }) F.called_list (F.typeCall_list_1 _) F.entry_list_init
    (code_list_new _ ⟨rfl, rfl⟩) fun obj s₁ h₁ => ?_
  obtain ⟨rfl, rfl⟩ := h₁
  have hS : (s.heap.push { cls := .type "list", data := .seq #[] }).get? s.heap.objs.size = some { cls := .type "list", data := .seq #[] } := Heap.get?_push_size _ rfl
  obtain ⟨oi, hoi, _⟩ := id hit
  obtain ⟨ol, hol, _⟩ := id hl
  have hSi : s.heap.objs.size ≠ it := Nat.ne_of_gt (Heap.lt_size hoi)
  have hSl : s.heap.objs.size ≠ l := Nat.ne_of_gt (Heap.lt_size hol)
  refine ⟨⟨_, hS, rfl⟩, F.args_list_init_2 _ _, list_init_rev (A := A.in1) hh (hit.at fun o e => Heap.get?_push_of_some _ e) (hl.push _) hne hn _ hSi hSl hS fun h' tk acc' c' hk hS' hacc => ?_⟩
  exact ⟨rfl, hQ h' tk acc' c' (fun b o hb e => hk b o hb (Nat.ne_of_lt (Heap.lt_size e)) (Heap.get?_push_of_some _ e)) hS' hacc⟩
end
end RT
namespace Px
open PySem PySem.Spec PyProof.Rows L2 Evl
section
variable {X : Cx}
/-- list(reversed(x)), x a list: a new list -/
def tLstRev (K : PySem.W.Frag) (te : TE) : TE := fun σ H Q => te σ H fun v H1 => ∃ (a : Addr) (xs : List V), v = .ref a ∧ SqL K H1 a xs ∧ ∀ q, H1 q = none → Q (.ref q) (upd H1 q (.lst xs.reverse))
theorem pe_lstRev {K : PySem.W.Frag} {e : Expr} {te : TE} {p p2 pos pos2 : Pos} (hc : X.calm = true) (hg : Gl X "list") (hm : X.mg "list" = none) (hg2 : Gl X "reversed") (hm2 : X.mg "reversed" = none) (he : PE X e te) (hK : X.K = K := by rfl)
    (hs : starEach [e] X.env = (false, eval e X.env) :: starEach [] X.env := by rfl)
    (hs2 : starEach [.Call (.Name "reversed" p2) [e] [] pos2] X.env = (false, eval (.Call (.Name "reversed" p2) [e] [] pos2) X.env) :: starEach [] X.env := by rfl) :
    PE X (.Call (.Name "list" p) [.Call (.Name "reversed" p2) [e] [] pos2] [] pos) (tLstRev K te) := by
  subst hK
  refine ⟨fun pins s σ H Q I h => ?_⟩
  refine Call_ (ld_blt I hg hm boot_list (PyProof.Rows.callWith_type1 (args_cons (Call_ (ld_blt I hg2 hm2 PyProof.Rows.boot_reversed (PyProof.Rows.callWith_type1 (args_cons (thn (he.run pins s σ H _ I h) fun u s1 ⟨v, H1, I1, r1, q1⟩ => args_nil ?_) hs) hs rfl))) hs2) hs2 rfl))
  obtain ⟨a, xs, ev, hq, q⟩ := q1
  subst ev
  obtain rfl : u = Value.ref a := r1
  obtain ⟨its, rv, p', hz⟩ := I1.list hq
  refine call_reversed_list p'.isList (args_nil ?_)
  have k0 : ∀ b o, s1.heap.get? b = some o → (s1.heap.push (revObj a ((its.toArray.size : Int) - 1))).get? b = some o := fun b o e => Heap.get?_push_of_some _ e
  have hl := p'.isList
  obtain ⟨ol, hol, _⟩ := id hl
  have hne : a ≠ s1.heap.objs.size := Nat.ne_of_lt (Heap.lt_size hol)
  have hn : its.toArray.size ≤ sizeLine := by rw [List.size_toArray, ← rv.length]; exact hz
  refine RT.call_list_rev (s := { s1 with heap := s1.heap.push (revObj a ((its.toArray.size : Int) - 1)) }) (I1.ok.hd hc) ⟨_, Heap.get?_push_size _ rfl, rfl, rfl⟩ (hl.push _) hne hn fun h' tk acc c' hk hS hi => ?_
  have hsz : s1.heap.objs.size ≤ (s1.heap.push (revObj a ((its.toArray.size : Int) - 1))).objs.size := by
    show s1.heap.objs.size ≤ (s1.heap.objs.push _).size
    rw [Array.size_push]
    exact Nat.le_succ _
  refine ⟨.ref (s1.heap.push (revObj a ((its.toArray.size : Int) - 1))).objs.size, upd H1 (s1.heap.push (revObj a ((its.toArray.size : Int) - 1))).objs.size (.lst xs.reverse), I1.laid (t' := tk) (fun b o e => hk b o (Nat.ne_of_lt (Heap.lt_size e)) (k0 b o e)) hsz
    (show ObjOk X.prog X.w _ _ _ (.lst xs.reverse) from ⟨by rw [List.length_reverse]; exact hz, acc.toList, c', RT.vals_rev rv hi, ?_⟩), rfl, q _ (I1.hok.fresh hsz)⟩
  rw [Array.toArray_toList]
  exact hS
theorem k_lstRev {K : PySem.W.Frag} {σ : L2.St} {H : Hp} {te : TE} {P : V → Hp → Prop} (h : EvK te σ H fun v Hx => ∃ (a : Addr) (xs : List V), v = .ref a ∧ SqL K Hx a xs ∧ ∀ q, Hx q = none → P (.ref q) (upd Hx q (.lst xs.reverse))) : EvK (tLstRev K te) σ H P := fun H1 e Q k =>
  h H1 e _ fun v H2 ⟨Hx, ex, a, xs, ev, hq, hp⟩ => ⟨a, xs, ev, ex_l ex hq, fun q nq => k _ _ ⟨_, Ex.updm ex, hp q (fresh_back ex nq)⟩⟩
end
end Px

set_option Elab.async false
set_option linter.all false
set_option maxRecDepth 100000
set_option maxHeartbeats 4000000
/-! Pq: more of the calculus: comprehensions told by a word, tuples cut and walked, except clauses one after the other. -/
namespace Px
open PySem PySem.Spec PyProof.Rows L2 Evl
theorem boot_ValueError : bootBuiltins "ValueError" = some (.type "ValueError") := by decide +kernel
section
variable {K : PySem.W.Frag} {σ : L2.St} {H H' : Hp} {ta tb tc te tx : TE} {t u : TT} {x y z v : V} {r r' : R2} {P : V → Hp → Prop} {D : Ends} {s s2 w : TS}
theorem r_eqB {a b : Bool} (h : P (.bl (decide (a = b))) H) : RK rEq (.bl a) (.bl b) H P := r_eq ⟨rfl, by
  have e : decide (V.bl a = V.bl b) = decide (a = b) := by
    by_cases c : a = b
    · subst c
      rw [decide_eq_true rfl, decide_eq_true rfl]
    · rw [decide_eq_false c, decide_eq_false fun z => c (V.bl.inj z)]
  rw [e]
  exact h⟩
theorem r_neB {a b : Bool} (h : P (.bl (!decide (a = b))) H) : RK rNe (.bl a) (.bl b) H P := r_ne ⟨rfl, by
  have e : decide (V.bl a = V.bl b) = decide (a = b) := by
    by_cases c : a = b
    · subst c
      rw [decide_eq_true rfl, decide_eq_true rfl]
    · rw [decide_eq_false c, decide_eq_false fun z => c (V.bl.inj z)]
  rw [e]
  exact h⟩
theorem r_eqT {a b : Str} (h : P (.bl (decide (a = b))) H) : RK rEq (.str a) (.str b) H P := r_eq ⟨rfl, by
  have e : decide (V.str a = V.str b) = decide (a = b) := by
    by_cases c : a = b
    · subst c
      rw [decide_eq_true rfl, decide_eq_true rfl]
    · rw [decide_eq_false c, decide_eq_false fun z => c (V.str.inj z)]
  rw [e]
  exact h⟩
theorem r_neT {a b : Str} (h : P (.bl (!decide (a = b))) H) : RK rNe (.str a) (.str b) H P := r_ne ⟨rfl, by
  have e : decide (V.str a = V.str b) = decide (a = b) := by
    by_cases c : a = b
    · subst c
      rw [decide_eq_true rfl, decide_eq_true rfl]
    · rw [decide_eq_false c, decide_eq_false fun z => c (V.str.inj z)]
  rw [e]
  exact h⟩
theorem c_abs {i : Int} (hp : P (.int (if i < 0 then -i else i)) H) : CK (fun xs H Q => ∃ i, xs = [.int i] ∧ Q (.int (if i < 0 then -i else i)) H) [.int i] H P := fun H1 e Q k => ⟨i, rfl, k _ _ ⟨H, e, hp⟩⟩
theorem r_slT {p : Addr} {xs : List V} {lo hi : Option Int} (h : SqT K H p xs) (hw : ¬ (HT.sIx xs.length 0 lo = 0 ∧ HT.sIx xs.length xs.length hi = xs.length)) (hp : ∀ q, H q = none → P (.ref q) (upd H q (.tup (cutV xs lo hi)))) : Kc (rSlT K (.ref p) lo hi) H P := fun H1 e Q k => ⟨p, xs, rfl, ex_t e h, hw, fun q nq => k _ _ ⟨_, Ex.updm e, hp q (fresh_back e nq)⟩⟩
/-- over a tuple that is made on the way -/
theorem gs_forT {j : Nat} (h : EvK te σ H fun v Hx => ∃ (a : Addr) (xs : List V) (Pv : Nat → L2.St → Hp → Prop), v = .ref a ∧ SqT K Hx a xs ∧ Pv 0 σ Hx ∧ (∀ i σ' H', i ≤ xs.length → Pv i σ' H' → SqT K H' a xs) ∧
    (∀ i x σ' H', xs[i]? = some x → Pv i σ' H' → Go s { D with nx := Lp Pv (i + 1), ct := Lp Pv (i + 1), bk := w D } (σ'.set j (some x)) H') ∧ (∀ σ' H', Pv xs.length σ' H' → Go w D σ' H')) : Go (tSeq (tFor (iTup K te) (gName j) s) w) D σ H := fun H1 e =>
  h H1 e _ fun v H2 ⟨Hx, ex, a, xs, Pv, ev, hq, h0, hl, hs, hd⟩ => ⟨a, ev, ⟨xs, ex_t ex hq⟩, for_tup (D := { D with nx := w D }) (Lp Pv) ⟨Hx, ex, h0⟩ (fun i σ' H' hi ⟨Hy, ey, p⟩ => ex_t ey (hl i σ' Hy hi p)) (fun i x σ' H' hi ⟨Hy, ey, p⟩ => hs i x σ' Hy hi p H' ey) (fun σ' H' ⟨Hy, ey, p⟩ => hd σ' Hy p H' ey)⟩

theorem cut_fromN {xs : List V} {k : Nat} (h : k ≤ xs.length) : cutV xs (some (k : Int)) none = xs.drop k := by
  unfold cutV
  rw [show HT.sIx xs.length 0 (some (k : Int)) = min k xs.length from HT.sIx_nat xs.length 0 k, HT.sIx_none, Nat.min_eq_left h]
  exact List.take_of_length_le (by rw [List.length_drop]; omega)
theorem dp_two {h x y : Addr} {ns ms : List Int} (hh : SqL K H h [.ref x, .ref y]) (hx : SqL K H x (ns.map V.int)) (hy : SqL K H y (ms.map V.int)) : Dp K H (.ref h) (.list [.list (ns.map PyData.int), .list (ms.map PyData.int)]) := .lst hh (.cons (dp_ints hx) (.cons (dp_ints hy) .nil))
theorem sh_two (ns ms : List Int) : SeqAt.shaped (.list [.list (ns.map PyData.int), .list (ms.map PyData.int)]) = true := by
  show ((PyData.canLayAll0 (ns.map PyData.int) && (PyData.canLayAll0 (ms.map PyData.int) && true)) && decide (max (PyData.depthAll (ns.map PyData.int) + 1) (max (PyData.depthAll (ms.map PyData.int) + 1) 0) + 1 ≤ 64)) = true
  rw [lay_ints, lay_ints, dep_ints, dep_ints]
  rfl
/-! ### try -/
def tTry (tb : WX → TS) (W : Ends → WX) : TS := fun D σ H => tb (W D) D σ H
theorem gs_try {tb : WX → TS} {W : Ends → WX} (h : Go (tb (W { D with nx := w D })) { D with nx := w D } σ H) : Go (tSeq (tTry tb W) w) D σ H := h
theorem g1_try {tb : WX → TS} {W : Ends → WX} (h : Go (tb (W D)) D σ H) : Go (tTry tb W) D σ H := h
theorem ps_tryAs {X : Cx} {x n : Str} {c : Value} {i : Nat} {body suite : List Stmt} {b₀ : Stmt} {np pos pos' : Pos} {tb : WX → TS} {ts : Addr → Value → Option Addr → TS} {Wout : WX} (hs : X.stack = X.env :: X.outer) (hf : X.env.frame = some X.env.locals) (hN : X.N.Nodup) (hi : X.N[i]? = some n) (hln : X.env.kindOf n = some .local) (hc : Names X x c) (tk : Takes X Wout)
    (hb : ∀ (W : WX) (pn : List (Addr × Obj)) (xe : Value → Shared → Prop), Takes (X.tr pn xe) W → PassesOwn (model X.prog X.w) X.A X.env xe → PSs (X.tr pn xe) body (tb W))
    (hsu : ∀ (a : Addr) (oe : Obj) (cls : Value) (d : Option Addr) (pn : List (Addr × Obj)), Zc cls d oe → (∃ vs, oe.data = .fields vs) → PSs (X.suite a ((a, oe) :: pn)) (b₀ :: suite) (ts a cls d)) (hK : X.K = K := by rfl) :
    PS X (.Try body [.ExceptHandler (some (.Name x np)) (some n) (b₀ :: suite) pos'] [] [] pos) (tTry tb (wAs K c i ts Wout)) := by
  subst hK
  exact ps_try_as hs hf hN hi hln hc tk hb hsu
theorem ps_tryMany {X : Cx} {body : List Stmt} {h₀ : ExceptHandler} {hds : List ExceptHandler} {l : List (Value × (Addr → Value → Option Addr → TS))} {pos : Pos} {tb : WX → TS} {Wout : WX} (hs : X.stack = X.env :: X.outer) (hf : X.env.frame = some X.env.locals) (tk : Takes X Wout)
    (hb : ∀ (W : WX) (pn : List (Addr × Obj)) (xe : Value → Shared → Prop), Takes (X.tr pn xe) W → PassesOwn (model X.prog X.w) X.A X.env xe → PSs (X.tr pn xe) body (tb W))
    (hh : HdsOk X (h₀ :: hds) l) (hK : X.K = K := by rfl) : PS X (.Try body (h₀ :: hds) [] [] pos) (tTry tb (fun D => wMany K Wout D l)) := by
  subst hK
  exact ps_try_many hs hf tk hb hh
/-- the last assignment of a suite of 'except .. as n' (slot k) -/
theorem g1_asgA {i k : Nat} (h : EvK te σ H fun v Hx => Go w D ((σ.set i (some v)).set k none) Hx) : Go (tAsg te (gName i)) { nx := fun σ' H' => Ends.nx { D with nx := w D } (σ'.set k none) H', rt := Ends.rt { D with nx := w D }, bk := fun σ' H' => Ends.bk { D with nx := w D } (σ'.set k none) H', ct := fun σ' H' => Ends.ct { D with nx := w D } (σ'.set k none) H' } σ H := g1_asg h
/-! ### except clauses, one after the other -/
theorem ke_yes {c : Value} {ts : Addr → Value → Option Addr → TS} {Wout : WX} {l : List (Value × (Addr → Value → Option Addr → TS))} {cls : Value} {d : Option Addr} (he : PySem.W.exmOne K cls c = some true)
    (h : ∀ a, H a = none → Go (ts a cls d) D σ H) : KE (WE (wMany K Wout D ((c, ts) :: l)) σ) cls d H := fun H1 e => ⟨true, he, fun _ a na => h a (fresh_back e na) H1 e, fun q => Bool.noConfusion q⟩
theorem ke_no {c : Value} {ts : Addr → Value → Option Addr → TS} {Wout : WX} {l : List (Value × (Addr → Value → Option Addr → TS))} {cls : Value} {d : Option Addr} (he : PySem.W.exmOne K cls c = some false)
    (h : KE (WE (wMany K Wout D l) σ) cls d H) : KE (WE (wMany K Wout D ((c, ts) :: l)) σ) cls d H := fun H1 e => ⟨false, he, fun q => Bool.noConfusion q, fun _ => h H1 e⟩

/-! ### comprehensions told by a word: the list so far at D, the heap that matters -/
theorem k_lcW {g : TG} {tt : TT} {vs : List Nat} {tl : TE} (h : EvK tl σ H fun w Hx => ∃ (a : Addr) (xs : List V) (Pv : Addr → Nat → List V → Hp → Prop), w = .ref a ∧ xs.length ≤ 40000 ∧ SqL K Hx a xs ∧
      (∀ D, Hx D = none → Pv D 0 [] (upd Hx D (.lst []))) ∧ (∀ D i acc Hy, Hx D = none → Pv D i acc Hy → SqL K Hy a xs ∧ acc.length ≤ i ∧ Hy D = some (.lst acc)) ∧
      (∀ D i x acc Hy, Hx D = none → xs[i]? = some x → Pv D i acc Hy → GK g x (wipe σ vs) Hy fun σ2 H2 => wipe σ2 vs = wipe σ vs ∧ EvTK tt σ2 H2 fun b H3 => (b = true → EvK te σ2 H3 fun y H4 => H4 D = some (.lst acc) ∧ Pv D (i + 1) (acc ++ [y]) (upd H4 D (.lst (acc ++ [y])))) ∧ (b = false → Pv D (i + 1) acc H3)) ∧
      (∀ D acc Hy, Hx D = none → Pv D xs.length acc Hy → P (.ref D) Hy)) : EvK (tLc (iList K tl) g tt te vs) σ H P := fun H1 e Q k =>
  h H1 e _ fun w H2 ⟨Hx, ex, a, xs, Pv, ev, hn, hq, h0, hl, hs, hd⟩ => ⟨a, ev, ⟨xs, ex_l ex hq⟩, fun p np => by
    have npx : Hx p = none := fresh_back ex np
    refine lc_list (xs := xs) (fun i H' => ∃ acc Hy, Ex Hy H' ∧ Pv p i acc Hy) ⟨[], _, Ex.updm ex, h0 p npx⟩ (fun i H' _ ⟨acc, Hy, ey, q⟩ => ex_l ey (hl p i acc Hy npx q).1) (fun i x H' hi ⟨acc, Hy, ey, q⟩ => ?_) (fun H' ⟨acc, Hy, ey, q⟩ => k _ _ ⟨Hy, ey, hd p acc Hy npx q⟩)
    have hlt : i < xs.length := (List.getElem?_eq_some_iff.mp hi).1
    obtain ⟨_, hal, haD⟩ := hl p i acc Hy npx q
    refine hs p i x acc Hy npx hi q H' ey _ fun σ2 H3 ⟨Hz, ez, hw, ht⟩ => ⟨hw, ht H3 ez _ fun b H4 ⟨Hu, eu, hT, hF⟩ => ?_⟩
    cases b with
    | true =>
      rw [if_pos rfl]
      exact hT rfl H4 eu _ fun y H5 ⟨Hv, ev, hD, q5⟩ => ⟨acc, ev _ _ hD, sz_lt (by omega), acc ++ [y], _, Ex.updm ev, q5⟩
    | false =>
      rw [if_neg Bool.false_ne_true]
      exact ⟨acc, Hu, eu, hF rfl⟩⟩
theorem k_lcWR {g : TG} {tt : TT} {vs : List Nat} {tl : TA} (h : EvAK tl σ H fun ws Hx => ∃ (n : Int) (Pv : Addr → Nat → List V → Hp → Prop), ws = [.int n] ∧ n ≤ 40000 ∧ 0 ≤ n ∧
      (∀ D, Hx D = none → Pv D 0 [] (upd Hx D (.lst []))) ∧ (∀ D i acc Hy, Hx D = none → Pv D i acc Hy → acc.length ≤ i ∧ Hy D = some (.lst acc)) ∧
      (∀ D (i : Nat) acc Hy, Hx D = none → (i : Int) < n → Pv D i acc Hy → GK g (.int (i : Int)) (wipe σ vs) Hy fun σ2 H2 => wipe σ2 vs = wipe σ vs ∧ EvTK tt σ2 H2 fun b H3 => (b = true → EvK te σ2 H3 fun y H4 => H4 D = some (.lst acc) ∧ Pv D (i + 1) (acc ++ [y]) (upd H4 D (.lst (acc ++ [y])))) ∧ (b = false → Pv D (i + 1) acc H3)) ∧
      (∀ D acc Hy, Hx D = none → Pv D n.toNat acc Hy → P (.ref D) Hy)) : EvK (tLc (iRng1 tl) g tt te vs) σ H P := fun H1 e Q k =>
  h H1 e _ fun w H2 ⟨Hx, ex, n, Pv, ev, hn, hn0, h0, hl, hs, hd⟩ => ⟨n, ev, by omega, by omega, fun p np => by
    have npx : Hx p = none := fresh_back ex np
    refine lc_range (lo := 0) (n := n.toNat) (fun i H' => ∃ acc Hy, Ex Hy H' ∧ Pv p i acc Hy) ⟨[], _, Ex.updm ex, h0 p npx⟩ (fun i H' hi ⟨acc, Hy, ey, q⟩ => ?_) (fun H' ⟨acc, Hy, ey, q⟩ => k _ _ ⟨Hy, ey, hd p acc Hy npx q⟩)
    obtain ⟨hal, haD⟩ := hl p i acc Hy npx q
    have e0 : (0 : Int) + (i : Int) = (i : Int) := Int.zero_add _
    show g (.int ((0 : Int) + (i : Int))) (wipe σ vs) H' _
    rw [e0]
    refine hs p i acc Hy npx (by omega) q H' ey _ fun σ2 H3 ⟨Hz, ez, hw, ht⟩ => ⟨hw, ht H3 ez _ fun b H4 ⟨Hu, eu, hT, hF⟩ => ?_⟩
    cases b with
    | true =>
      rw [if_pos rfl]
      exact hT rfl H4 eu _ fun y H5 ⟨Hv, ev, hD, q5⟩ => ⟨acc, ev _ _ hD, sz_lt (by omega), acc ++ [y], _, Ex.updm ev, q5⟩
    | false =>
      rw [if_neg Bool.false_ne_true]
      exact ⟨acc, Hu, eu, hF rfl⟩⟩
/-- [e for x, y in zip(xs, ys)], the targets names -/
theorem k_lcZ {i j : Nat} {vs : List Nat} {tl : TA} (f : V → V → V) (h : EvAK tl σ H fun ws Hx => ∃ (a b : Addr) (xs ys : List V), ws = [.ref a, .ref b] ∧ xs.length ≤ 40000 ∧ xs.length = ys.length ∧ SqL K Hx a xs ∧ SqL K Hx b ys ∧
      (∀ x y, wipe (((wipe σ vs).set i (some x)).set j (some y)) vs = wipe σ vs) ∧
      (∀ (k : Nat) x y Hz, xs[k]? = some x → ys[k]? = some y → Ex Hx Hz → EvK te (((wipe σ vs).set i (some x)).set j (some y)) Hz fun v Hy => v = f x y ∧ Hy = Hz) ∧ ∀ p, Hx p = none → P (.ref p) (upd Hx p (.lst (List.zipWith f xs ys)))) :
    EvK (tLc (iZip K tl) (gTup K 2 (gCons (gName i) (gCons (gName j) gNil))) tYes te vs) σ H P := fun H1 e Q k =>
  h H1 e _ fun w H2 ⟨Hx, ex, a, b, xs, ys, ev, hn, hxy, hqx, hqy, hw, hs, hd⟩ => ⟨a, b, xs, ys, ev, ex_l ex hqx, ex_l ex hqy, fun p np => by
    have npx : Hx p = none := fresh_back ex np
    refine ⟨fun i m H' => m = xs.length - i ∧ i ≤ xs.length ∧ Ex (upd Hx p (.lst ((List.zipWith f xs ys).take i))) H', ⟨xs.length, rfl, Nat.zero_le _, Ex.updm ex⟩, ?_⟩
    rintro n m H' ⟨rfl, hin, hH⟩
    have qx : SqL K H' a xs := ex_l hH (ex_l (Ex.new npx) hqx)
    have qy : SqL K H' b ys := ex_l hH (ex_l (Ex.new npx) hqy)
    by_cases hlt : n < xs.length
    · have hx : xs[n]? = some xs[n] := List.getElem?_eq_getElem hlt
      have hlt2 : n < ys.length := by omega
      have hy : ys[n]? = some ys[n] := List.getElem?_eq_getElem hlt2
      refine .inr ⟨⟨xs, ys, _, _, qx, qy, hx, hy⟩, fun H'' => Ex (upd Hx p (.lst ((List.zipWith f xs ys).take (n + 1)))) H'', fun H'' p' => ⟨xs.length - (n + 1), by omega, rfl, hlt, p'⟩, fun v H'' yy => ?_⟩
      obtain ⟨T, x', y', rfl, hT, rfl, f1, f2⟩ := yy
      have gx := f1 xs qx
      have gy := f2 ys qy
      have hT2 : (upd Hx p (.lst ((List.zipWith f xs ys).take n))) T = none := fresh_back hH hT
      have ex2 : Ex (upd Hx p (.lst ((List.zipWith f xs ys).take n))) (upd H' T (.tup [x', y'])) := hH.trans (Ex.new hT)
      refine gk_tup2 (K := K) (H := upd H' T (.tup [x', y'])) (st_of upd_same) (gk_name (gk_name (R := fun σ2 H2 => wipe σ2 vs = wipe σ vs ∧ σ2 = ((wipe σ vs).set i (some x')).set j (some y') ∧ H2 = upd H' T (.tup [x', y'])) ⟨hw _ _, rfl, rfl⟩)) _ (Ex.refl _) _ ?_
      rintro σ2 H3 ⟨_, e3, hw2, rfl, rfl⟩
      refine ⟨hw2, ?_⟩
      show te _ H3 _
      refine hs n x' y' (upd Hx p (.lst ((List.zipWith f xs ys).take n))) gx gy (Ex.new npx) H3 (ex2.trans e3) _ ?_
      rintro v H4 ⟨Hy, ey, rfl, rfl⟩
      refine ⟨_, ey p _ upd_same, sz_lt (by rw [List.length_take, List.length_zipWith]; omega), ?_⟩
      have e5 : (List.zipWith f xs ys).take (n + 1) = (List.zipWith f xs ys).take n ++ [f x' y'] := by
        rw [List.take_succ]
        congr 1
        rw [List.getElem?_zipWith, gx, gy]
        rfl
      rw [e5]
      exact Ex.updm (fun c u q => by
        by_cases hc : c = p
        · subst hc
          rw [npx] at q
          cases q
        · exact ey c u (by rw [upd_ne hc]; exact q))
    · have e : n = xs.length := by omega
      subst e
      refine .inl ⟨⟨xs, ys, qx, qy, Or.inl (Nat.le_refl _)⟩, k _ _ ⟨_, hH, ?_⟩⟩
      rw [List.take_of_length_le (by rw [List.length_zipWith]; omega)]
      exact hd p npx⟩
end
end Px

set_option Elab.async false
set_option linter.all false
set_option maxRecDepth 100000
set_option maxHeartbeats 400000
/-! Pw: plain mathematics of two rows: gaps and dues. -/
namespace Pw
open Pm
def Alike (ns ms : List Int) : Prop := ns.length = ms.length ∧ ns.sum = ms.sum
theorem Alike.symm {ns ms : List Int} (h : Alike ns ms) : Alike ms ns := ⟨h.1.symm, h.2.symm⟩
theorem Alike.of_perm {ns ms : List Int} (h : ns.Perm ms) : Alike ns ms := ⟨h.length_eq, perm_sum h⟩
/-- what the k fullest hold -/
def top (ns : List Int) (k : Nat) : Int := ((sd ns).take k).sum
theorem top_zero (ns : List Int) : top ns 0 = 0 := rfl
theorem top_all {ns : List Int} {k : Nat} (h : ns.length ≤ k) : top ns k = ns.sum := by
  unfold top
  rw [List.take_of_length_le (by rw [sd_len]; exact h)]
  exact perm_sum (sd_perm ns)
theorem top_succ {ns : List Int} {k : Nat} {x : Int} (h : (sd ns)[k]? = some x) : top ns (k + 1) = top ns k + x := sum_take h
theorem top_at {ns : List Int} {k : Nat} (h : k ≤ ns.length) : (tops ns)[k]? = some (top ns k) := tops_at h
def GapIs (ns ms : List Int) : Option Nat → Prop
  | none => ∀ k, k ≤ ns.length → top ms k ≤ top ns k
  | some k => k ≤ ns.length ∧ top ns k < top ms k ∧ ∀ j, j < k → top ms j ≤ top ns j
theorem GapIs.uniq {ns ms : List Int} : ∀ {o o' : Option Nat}, GapIs ns ms o → GapIs ns ms o' → o = o'
  | none, none, _, _ => rfl
  | none, some k, h, h' => by
    have h1 := h k h'.1
    have h2 := h'.2.1
    omega
  | some k, none, h, h' => by
    have h1 := h' k h.1
    have h2 := h.2.1
    omega
  | some k, some k', h, h' => by
    congr 1
    rcases Nat.lt_trichotomy k k' with c | c | c
    · have h1 := h'.2.2 k c
      have h2 := h.2.1
      omega
    · exact c
    · have h1 := h.2.2 k' c
      have h2 := h'.2.1
      omega
def oV : Option Nat → L2.V
  | none => .non
  | some k => .int (k : Int)
def dz (h g : Int) : Int := if h - g > 0 then h - g else 0
def dues (ns ms : List Int) : Int := (List.zipWith dz (sd ns) (sd ms)).sum
theorem dz_self (x : Int) : dz x x = 0 := by
  unfold dz
  rw [if_neg (by omega)]
theorem zip_self : ∀ l : List Int, (List.zipWith dz l l).sum = 0
  | [] => rfl
  | x :: l => by
    rw [List.zipWith_cons_cons, List.sum_cons, zip_self l, dz_self]
    rfl
theorem dues_perm {ns ms : List Int} (h : ns.Perm ms) : dues ns ms = 0 := by
  unfold dues
  rw [sd_of_perm h]
  exact zip_self _
theorem zip_at {a b : List Int} {i : Nat} {x y : Int} (hx : a[i]? = some x) (hy : b[i]? = some y) : (List.zipWith dz a b)[i]? = some (dz x y) := by
  rw [List.getElem?_zipWith, hx, hy]
theorem gap_level {ns : List Int} {o : Option Nat} (h : GapIs ns (level ns.length ns.sum) o) : o = none := by
  refine h.uniq (o' := none) fun k hk => ?_
  exact tops_level_le (tops_at (by rw [level_len]; exact hk)) (tops_at hk)
theorem odd_unlike {ns ms : List Int} {k : Nat} {b : Int} (h : Alike ns ms) (hb : b = 0 ∨ b = 1) (hk : k < ms.length) : ¬ Alike ns (ms.take k ++ [ms.getD k 0 + 1 - 2 * b] ++ ms.drop (k + 1)) := fun h2 => by
  have h3 := h.2
  have h4 := h2.2
  have h5 : ms.sum = (ms.take k).sum + ms.getD k 0 + (ms.drop (k + 1)).sum := by
    conv => lhs; rw [← List.take_append_drop k ms]
    rw [List.sum_append, List.drop_eq_getElem_cons hk, List.sum_cons, List.getD_eq_getElem?_getD, List.getElem?_eq_getElem hk, Option.getD_some]
    omega
  rw [List.sum_append, List.sum_append] at h4
  simp only [List.sum_cons, List.sum_nil] at h4
  omega
end Pw

set_option Elab.async false
set_option linter.all false
set_option maxRecDepth 100000
set_option maxHeartbeats 4000000
namespace K06
open PySem PySem.Spec PyProof.Rows L2 Evl Px
def topS (i : Nat) : Stmt := PySem.Challenge.pw_pursewise_k06_gap_and_dues.main.body.getD i (.Pass ⟨0, 0, 0, 0⟩)
abbrev s_together : Stmt := topS 9
abbrev n_together : List Str := ["one", "other"]
theorem sc_together : FnScope n_together ["one", "other"] (defScope s_together) := ⟨rfl, rfl, rfl, by decide +kernel, rfl, by decide +kernel, by decide +kernel⟩
abbrev s_dues : Stmt := topS 11
abbrev n_dues : List Str := ["one", "other", "total", "held", "goal"]
theorem sc_dues : FnScope n_dues ["one", "other"] (defScope s_dues) := ⟨rfl, rfl, rfl, by decide +kernel, rfl, by decide +kernel, by decide +kernel⟩
abbrev s_tops : Stmt := topS 7
abbrev n_tops : List Str := ["row", "found", "total", "held"]
theorem sc_tops : FnScope n_tops ["row"] (defScope s_tops) := ⟨rfl, rfl, rfl, by decide +kernel, rfl, by decide +kernel, by decide +kernel⟩
abbrev s_gap : Stmt := topS 10
abbrev n_gap : List Str := ["one", "other", "firsts", "seconds", "count"]
theorem sc_gap : FnScope n_gap ["one", "other"] (defScope s_gap) := ⟨rfl, rfl, rfl, by decide +kernel, rfl, by decide +kernel, by decide +kernel⟩
abbrev s_way : Stmt := topS 14
abbrev n_way : List Str := ["one", "other", "count", "places", "held", "goals", "gifts", "high", "low", "amount", "place"]
theorem sc_way : FnScope n_way ["one", "other"] (defScope s_way) := ⟨rfl, rfl, rfl, by decide +kernel, rfl, by decide +kernel, by decide +kernel⟩
abbrev s_Lasked : Stmt := topS 24
abbrev n_Lasked : List Str := ["_law_which", "_law_one", "_law_other"]
theorem sc_Lasked : FnScope n_Lasked ["_law_which", "_law_one", "_law_other"] (defScope s_Lasked) := ⟨rfl, rfl, rfl, by decide +kernel, rfl, by decide +kernel, by decide +kernel⟩
abbrev s_Lunlike : Stmt := topS 25
abbrev n_Lunlike : List Str := ["_law_which", "_law_one", "_law_other", "_law_handed", "_law_named", "_law_based", "e"]
theorem sc_Lunlike : FnScope n_Lunlike ["_law_which", "_law_one", "_law_other"] (defScope s_Lunlike) := ⟨rfl, rfl, rfl, by decide +kernel, rfl, by decide +kernel, by decide +kernel⟩
abbrev s_Lall_unlike : Stmt := topS 26
abbrev n_Lall_unlike : List Str := ["_law_one", "_law_other", "_law_which"]
theorem sc_Lall_unlike : FnScope n_Lall_unlike ["_law_one", "_law_other"] (defScope s_Lall_unlike) := ⟨rfl, rfl, rfl, by decide +kernel, rfl, by decide +kernel, by decide +kernel⟩
abbrev s_Lcell_at : Stmt := topS 16
abbrev n_Lcell_at : List Str := ["_law_script", "_law_k"]
theorem sc_Lcell_at : FnScope n_Lcell_at ["_law_script", "_law_k"] (defScope s_Lcell_at) := ⟨rfl, rfl, rfl, by decide +kernel, rfl, by decide +kernel, by decide +kernel⟩
abbrev s_Llevel : Stmt := topS 19
abbrev n_Llevel : List Str := ["_law_row", "_law_many", "_law_total", "_law_k"]
theorem sc_Llevel : FnScope n_Llevel ["_law_row"] (defScope s_Llevel) := ⟨rfl, rfl, rfl, by decide +kernel, rfl, by decide +kernel, by decide +kernel⟩
abbrev s_Lpurse : Stmt := topS 18
abbrev n_Lpurse : List Str := ["_law_cell", "_law_small"]
theorem sc_Lpurse : FnScope n_Lpurse ["_law_cell", "_law_small"] (defScope s_Lpurse) := ⟨rfl, rfl, rfl, by decide +kernel, rfl, by decide +kernel, by decide +kernel⟩
abbrev s_Lpair : Stmt := topS 20
abbrev n_Lpair : List Str := ["_law_script", "_law_small", "_law_cells", "_law_ones", "_law_others", "_law_rest", "_law_far", "_law_k"]
theorem sc_Lpair : FnScope n_Lpair ["_law_script"] (defScope s_Lpair) := ⟨rfl, rfl, rfl, by decide +kernel, rfl, by decide +kernel, by decide +kernel⟩
abbrev s_Ldues : Stmt := topS 22
abbrev n_Ldues : List Str := ["_law_one", "_law_other", "_law_here", "_law_there", "_law_k"]
theorem sc_Ldues : FnScope n_Ldues ["_law_one", "_law_other"] (defScope s_Ldues) := ⟨rfl, rfl, rfl, by decide +kernel, rfl, by decide +kernel, by decide +kernel⟩
abbrev s_Lgap : Stmt := topS 21
abbrev n_Lgap : List Str := ["_law_one", "_law_other", "_law_here", "_law_there", "_law_more", "_law_k"]
theorem sc_Lgap : FnScope n_Lgap ["_law_one", "_law_other"] (defScope s_Lgap) := ⟨rfl, rfl, rfl, by decide +kernel, rfl, by decide +kernel, by decide +kernel⟩
abbrev s_Lwhole : Stmt := topS 17
abbrev n_Lwhole : List Str := ["_law_found"]
theorem sc_Lwhole : FnScope n_Lwhole ["_law_found"] (defScope s_Lwhole) := ⟨rfl, rfl, rfl, by decide +kernel, rfl, by decide +kernel, by decide +kernel⟩
abbrev s_Lpair_good : Stmt := topS 23
abbrev n_Lpair_good : List Str := ["_law_one", "_law_other", "_law_handed", "_law_due", "_law_found", "_law_more"]
theorem sc_Lpair_good : FnScope n_Lpair_good ["_law_one", "_law_other"] (defScope s_Lpair_good) := ⟨rfl, rfl, rfl, by decide +kernel, rfl, by decide +kernel, by decide +kernel⟩
abbrev s_law : Stmt := topS 27
abbrev n_law : List Str := ["_law_script", "_law_one", "_law_other", "_law_few", "_law_turned", "_law_told", "_law_at", "_law_odd"]
theorem sc_law : FnScope n_law ["_law_script"] (defScope s_law) := ⟨rfl, rfl, rfl, by decide +kernel, rfl, by decide +kernel, by decide +kernel⟩
/-- built-in names that are still so -/
structure Bl (mg : Str → Option Value) : Prop where
  ValueError_ : mg "ValueError" = none
  bool_ : mg "bool" = none
  int_ : mg "int" = none
  isinstance_ : mg "isinstance" = none
  len_ : mg "len" = none
  list_ : mg "list" = none
  max_ : mg "max" = none
  range_ : mg "range" = none
  sorted_ : mg "sorted" = none
  sum_ : mg "sum" = none
  zip_ : mg "zip" = none
/-! ### the script's cells -/
def cellAt (ns : List Int) (k : Int) : Int := if k < (ns.length : Int) then ns.getD k.toNat 0 else 0
def AllBd (n : Nat) (ns : List Int) : Prop := ∀ z ∈ ns, Bd n z
theorem bd0 (n : Nat) : Bd n 0 := Nat.pow_pos (by decide)
theorem AllBd.get {n : Nat} {ns : List Int} (h : AllBd n ns) (k : Nat) : Bd n (ns.getD k 0) := by
  rw [List.getD_eq_getElem?_getD]
  cases e : ns[k]? with
  | none => exact bd0 n
  | some z => exact h z (List.mem_of_getElem? e)
theorem AllBd.mono {n m : Nat} {ns : List Int} (h : AllBd n ns) (k : n ≤ m) : AllBd m ns := fun z hz => (h z hz).mono k
theorem AllBd.snoc {n : Nat} {ns : List Int} {z : Int} (h : AllBd n ns) (hz : Bd n z) : AllBd n (ns ++ [z]) := fun y hy => by
  rcases List.mem_append.mp hy with h1 | h1
  · exact h y h1
  · rw [List.mem_singleton.mp h1]
    exact hz
theorem AllBd.cell {n : Nat} {ns : List Int} (h : AllBd n ns) (k : Int) : Bd n (cellAt ns k) := by
  unfold cellAt
  split
  · exact h.get _
  · exact bd0 n
theorem at_getD {ns : List Int} {k : Int} (h0 : 0 ≤ k) (h : k < (ns.length : Int)) : atI (ns.map V.int) k = some (.int (ns.getD k.toNat 0)) := by
  have hk : k.toNat < ns.length := by omega
  have e : k = (k.toNat : Int) := by omega
  rw [e]
  exact Pm.atI_map (by rw [List.getD_eq_getElem?_getD, Int.toNat_natCast, List.getElem?_eq_getElem hk]; rfl)
/-- the script's k-th cell, or nought -/
def spLcell_at (K : PySem.W.Frag) : Sp := fun vs H Q _ => ∃ (a : Addr) (ns : List Int) (k : Int), vs = [.ref a, .int k] ∧ SqL K H a (ns.map V.int) ∧ 0 ≤ k ∧ KQ Q (.int (cellAt ns k)) H
theorem k_Lcell_at {K : PySem.W.Frag} {H : Hp} {P : V → Hp → Prop} {a : Addr} {ns : List Int} {k : Int} (h : SqL K H a (ns.map V.int)) (h0 : 0 ≤ k) (hp : P (.int (cellAt ns k)) H) : SpK (spLcell_at K) [.ref a, .int k] H P := fun _ H1 e Q q =>
  ⟨a, ns, k, rfl, ex_l e h, h0, fun H2 e2 => q _ _ ⟨H, e.trans e2, hp⟩⟩
theorem ixN_at {n : Nat} {k : Int} (h0 : 0 ≤ k) (h : k < (n : Int)) : ixN n k = some k.toNat := by
  unfold ixN
  rw [if_pos h0, if_pos h]
theorem map_set_int (ns : List Int) (i : Nat) (z : Int) : (ns.map V.int).set i (V.int z) = (ns.set i z).map V.int := List.map_set.symm
theorem refs_at {gs : List Addr} {i : Nat} {x : V} (h : (gs.map V.ref)[i]? = some x) : ∃ g, gs[i]? = some g ∧ x = V.ref g := by
  rw [List.getElem?_map] at h
  cases e : gs[i]? with
  | none => rw [e] at h; cases h
  | some z => rw [e] at h; exact ⟨z, rfl, (Option.some.inj h).symm⟩
theorem List.drop_eq_getElem_cons_of {α : Type} {l : List α} {i : Nat} {z : α} (h : l[i]? = some z) : l.drop i = z :: l.drop (i + 1) := by
  obtain ⟨h1, rfl⟩ := List.getElem?_eq_some_iff.mp h
  exact List.drop_eq_getElem_cons h1

/-- sizes -/
local macro_rules | `(tactic| walk_at "bd") => `(tactic| first
  | assumption
  | ((with_reducible refine Bd.add (n := ?n1) (m := ?m1) ?h1 ?h2); (case h1 => walk_at "bd"); (case h2 => walk_at "bd"))
  | ((with_reducible refine Bd.sub (n := ?n1) (m := ?m1) ?h1 ?h2); (case h1 => walk_at "bd"); (case h2 => walk_at "bd"))
  | ((with_reducible refine Bd.mul (n := ?n1) (m := ?m1) ?h1 ?h2); (case h1 => walk_at "bd"); (case h2 => walk_at "bd"))
  | ((with_reducible refine Bd.mod ?h1 ?h2); (case h1 => walk_at "bd"); (case h2 => first | decide | omega))
  | ((with_reducible refine Bd.div ?h1); (case h1 => walk_at "bd"))
  | exact AllBd.get (by assumption) _
  | exact AllBd.cell (by assumption) _
  | exact bd_lit _)
local macro_rules | `(tactic| walk_at "side") => `(tactic| first
  | ((with_reducible refine Bd.mulX (n := ?bn) (m := ?bm) ?b1 ?b2 ?sl); (case b1 => walk_at "bd"); (case b2 => walk_at "bd"); (case sl => decide +kernel))
  | (show (_ : Int) < _; decide)
  | (show (_ : Int) < _ ∧ _; decide)
  | (show (_ : Int) ≤ _ ∧ _; decide)
  | (show (_ : Int) < _; omega)
  | (show (_ : Int) < _ ∧ _; omega))
/-- one step of the calculus, by the head -/
local macro_rules | `(tactic| walk_at "k") => `(tactic| first
  | ((with_reducible refine k_var (v := ?kw) ?kv ?_); (case kv => exact rfl))
  | with_reducible refine k_c ?_
  | with_reducible refine k_op ?_
  | with_reducible refine k_cb ?_
  | with_reducible refine k_cons ?_
  | with_reducible refine k_nil ?_
  | with_reducible refine k_call ?_
  | with_reducible refine r_I0 ?_
  | ((with_reducible refine r_I' ?_ ?rc); (case rc => walk_at "side"))
  | with_reducible refine kt_test ?_
  | with_reducible refine kt_B ?_
  | with_reducible refine kt_or ?_
  | with_reducible refine kt_and ?_
  | with_reducible refine kt_not ?_
  | with_reducible refine k_tup ?_
  | with_reducible refine k_lst ?_
  | with_reducible refine k_ckw ?_
  | with_reducible refine k_bm ?_
  | with_reducible refine k_bm0 ?_
  | with_reducible refine k_sl ?_
  | with_reducible refine k_part ?_
  | with_reducible refine k_nopart ?_
  | with_reducible refine k_un ?_
  | with_reducible refine k_chain ?_
  | with_reducible refine k_andV ?_
  | with_reducible refine k_orV ?_
  | with_reducible refine k_notV ?_
  | with_reducible refine r_neg ?_
  | with_reducible refine r_eqI ?_
  | with_reducible refine r_neI ?_
  | with_reducible refine ⟨_, rfl, ?_⟩)
/-- a statement -/
local macro_rules | `(tactic| walk_at "s") => `(tactic| first
  | with_reducible refine gs_asg ?_
  | with_reducible refine gs_drop ?_
  | with_reducible refine gs_when ?_
  | with_reducible refine gs_if ?_
  | with_reducible refine gs_par ?_
  | with_reducible refine gs_set ?_
  | with_reducible refine g2_asg ?_
  | with_reducible refine g2_drop ?_
  | with_reducible refine g2_next ?_
  | with_reducible refine g2_par ?_
  | with_reducible refine g2_set ?_
  | with_reducible refine g1_asg ?_
  | with_reducible refine g1_drop ?_
  | with_reducible refine g1_ret ?_
  | with_reducible refine g1_if ?_
  | with_reducible refine g1_par ?_
  | with_reducible refine g1_set ?_)
local macro_rules | `(tactic| walk_at "ks") => `(tactic| repeat walk_at "k")

/-- what the top says of the refusals -/
structure TxtE (K : PySem.W.Frag) (mg : Str → Option Value) (C_PurseError C_NoGift C_Unlike C_Gap C_NoText : Addr) : Prop where
  g_PurseError : mg "PurseError" = some (.ref C_PurseError)
  g_NoGift : mg "NoGift" = some (.ref C_NoGift)
  g_Unlike : mg "Unlike" = some (.ref C_Unlike)
  g_Gap : mg "Gap" = some (.ref C_Gap)
  g_NoText : mg "NoText" = some (.ref C_NoText)
  x_Unlike : PySem.W.excIn K C_Unlike [.type "ValueError", .type "Exception", .type "BaseException", .type "object"] "ValueError.__new__" = true
  k_Unlike : PySem.W.keepIn K (.ref C_Unlike) = true
  b_Unlike : PySem.W.subIn K (.ref C_Unlike) (.type "BaseException") = some true
  t_Unlike : PySem.W.typeIn K (.ref C_Unlike) = some (.type "type")
  e_PurseError : PySem.W.exmOne K (.ref C_Unlike) (.ref C_PurseError) = some true
  e_Gap : PySem.W.exmOne K (.ref C_Unlike) (.ref C_Gap) = some false
  e_NoGift : PySem.W.exmOne K (.ref C_Unlike) (.ref C_NoGift) = some false
  e_NoText : PySem.W.exmOne K (.ref C_Unlike) (.ref C_NoText) = some false
  e_Unlike : PySem.W.exmOne K (.ref C_Unlike) (.ref C_Unlike) = some true
  CE : ExcC K C_Unlike
  n_ValueError : PySem.W.kitOne K (.ref C_Unlike) (.type "ValueError") = some true

def spLwholes (K : PySem.W.Frag) : Sp := fun vs H Q _ => ∃ (a : Addr) (ns : List Int), vs = [.ref a, .int (ns.length : Int)] ∧ H a = some (.lst (ns.map V.int)) ∧ KQ Q (.bl true) H
theorem k_Lwholes {K : PySem.W.Frag} {H : Hp} {P : V → Hp → Prop} {a : Addr} {ns : List Int} {m : Int} (hm : m = (ns.length : Int)) (h : H a = some (.lst (ns.map V.int))) (hp : P (.bl true) H) : SpK (spLwholes K) [.ref a, .int m] H P := fun _ H1 e Q q => by
  subst hm
  exact ⟨a, ns, rfl, e _ _ h, fun H2 e2 => q _ _ ⟨H, e.trans e2, hp⟩⟩
def spTops (K : PySem.W.Frag) : Sp := fun vs H Q _ => ∃ (a : Addr) (ns : List Int), vs = [.ref a] ∧ SqL K H a (ns.map V.int) ∧ ns.length ≤ 1000 ∧ ∀ p, H p = none → KQ Q (.ref p) (upd H p (.lst ((Pm.tops ns).map V.int)))
theorem k_tops {K : PySem.W.Frag} {H : Hp} {P : V → Hp → Prop} {a : Addr} {ns : List Int} (h : SqL K H a (ns.map V.int)) (hl : ns.length ≤ 1000) (hp : ∀ p, H p = none → P (.ref p) (upd H p (.lst ((Pm.tops ns).map V.int)))) : SpK (spTops K) [.ref a] H P := fun _ H1 e Q q =>
  ⟨a, ns, rfl, ex_l e h, hl, fun p np H2 e2 => q _ _ ⟨_, (Ex.updm e).trans e2, hp p (fresh_back e np)⟩⟩

def sptogether (K : PySem.W.Frag) (C : Addr) : Sp := fun vs H Q E => ∃ (a b : Addr) (ns ms : List Int), vs = [.ref a, .ref b] ∧ SqL K H a (ns.map V.int) ∧ SqL K H b (ms.map V.int) ∧ (¬ Pw.Alike ns ms → KE E (.ref C) none H) ∧ (Pw.Alike ns ms → KQ Q .non H)
theorem k_together {K : PySem.W.Frag} {C : Addr} {E : XK} {H : Hp} {P : V → Hp → Prop} {a b : Addr} {ns ms : List Int} (h : SqL K H a (ns.map V.int)) (h2 : SqL K H b (ms.map V.int)) (he : ¬ Pw.Alike ns ms → KE E (.ref C) none H) (hp : Pw.Alike ns ms → P .non H) : Kc (fun H Q => sptogether K C [.ref a, .ref b] H Q E) H P := fun H1 e Q q =>
  ⟨a, b, ns, ms, rfl, ex_l e h, ex_l e h2, fun n => (he n).up e, fun y H2 e2 => q _ _ ⟨_, e.trans e2, hp y⟩⟩
def spgap (K : PySem.W.Frag) (C : Addr) : Sp := fun vs H Q E => ∃ (a b : Addr) (ns ms : List Int), vs = [.ref a, .ref b] ∧ SqL K H a (ns.map V.int) ∧ SqL K H b (ms.map V.int) ∧ ns.length ≤ 500 ∧ (¬ Pw.Alike ns ms → KE E (.ref C) none H) ∧ (Pw.Alike ns ms → ∀ o, Pw.GapIs ns ms o → KQ Q (Pw.oV o) H)
theorem k_gap {K : PySem.W.Frag} {C : Addr} {E : XK} {H : Hp} {P : V → Hp → Prop} {a b : Addr} {ns ms : List Int} (h : SqL K H a (ns.map V.int)) (h2 : SqL K H b (ms.map V.int)) (hl : ns.length ≤ 500) (he : ¬ Pw.Alike ns ms → KE E (.ref C) none H) (hp : Pw.Alike ns ms → ∀ o, Pw.GapIs ns ms o → P (Pw.oV o) H) : Kc (fun H Q => spgap K C [.ref a, .ref b] H Q E) H P := fun H1 e Q q =>
  ⟨a, b, ns, ms, rfl, ex_l e h, ex_l e h2, hl, fun n => (he n).up e, fun y o g H2 e2 => q _ _ ⟨_, e.trans e2, hp y o g⟩⟩
def spdues (K : PySem.W.Frag) (C : Addr) : Sp := fun vs H Q E => ∃ (a b : Addr) (ns ms : List Int), vs = [.ref a, .ref b] ∧ SqL K H a (ns.map V.int) ∧ SqL K H b (ms.map V.int) ∧ ns.length ≤ 500 ∧ (¬ Pw.Alike ns ms → KE E (.ref C) none H) ∧ (Pw.Alike ns ms → KQ Q (.int (Pw.dues ns ms)) H)
theorem k_dues {K : PySem.W.Frag} {C : Addr} {E : XK} {H : Hp} {P : V → Hp → Prop} {a b : Addr} {ns ms : List Int} (h : SqL K H a (ns.map V.int)) (h2 : SqL K H b (ms.map V.int)) (hl : ns.length ≤ 500) (he : ¬ Pw.Alike ns ms → KE E (.ref C) none H) (hp : Pw.Alike ns ms → P (.int (Pw.dues ns ms)) H) : Kc (fun H Q => spdues K C [.ref a, .ref b] H Q E) H P := fun H1 e Q q =>
  ⟨a, b, ns, ms, rfl, ex_l e h, ex_l e h2, hl, fun n => (he n).up e, fun y H2 e2 => q _ _ ⟨_, e.trans e2, hp y⟩⟩
/-- the law's own -/
def spLgap (K : PySem.W.Frag) : Sp := fun vs H Q _ => ∃ (a b : Addr) (ns ms : List Int), vs = [.ref a, .ref b] ∧ SqL K H a (ns.map V.int) ∧ SqL K H b (ms.map V.int) ∧ ns.length ≤ 500 ∧ ns.length = ms.length ∧ ∀ o, Pw.GapIs ns ms o → KQ Q (Pw.oV o) H
theorem k_Lgap {K : PySem.W.Frag} {H : Hp} {P : V → Hp → Prop} {a b : Addr} {ns ms : List Int} (h : SqL K H a (ns.map V.int)) (h2 : SqL K H b (ms.map V.int)) (hl : ns.length ≤ 500) (he : ns.length = ms.length) (hp : ∀ o, Pw.GapIs ns ms o → P (Pw.oV o) H) : SpK (spLgap K) [.ref a, .ref b] H P := fun _ H1 e Q q =>
  ⟨a, b, ns, ms, rfl, ex_l e h, ex_l e h2, hl, he, fun o g H2 e2 => q _ _ ⟨_, e.trans e2, hp o g⟩⟩
def spLdues (K : PySem.W.Frag) : Sp := fun vs H Q _ => ∃ (a b : Addr) (ns ms : List Int), vs = [.ref a, .ref b] ∧ SqL K H a (ns.map V.int) ∧ SqL K H b (ms.map V.int) ∧ ns.length ≤ 500 ∧ ns.length = ms.length ∧ KQ Q (.int (Pw.dues ns ms)) H
theorem k_Ldues {K : PySem.W.Frag} {H : Hp} {P : V → Hp → Prop} {a b : Addr} {ns ms : List Int} (h : SqL K H a (ns.map V.int)) (h2 : SqL K H b (ms.map V.int)) (hl : ns.length ≤ 500) (he : ns.length = ms.length) (hp : P (.int (Pw.dues ns ms)) H) : SpK (spLdues K) [.ref a, .ref b] H P := fun _ H1 e Q q =>
  ⟨a, b, ns, ms, rfl, ex_l e h, ex_l e h2, hl, he, fun H2 e2 => q _ _ ⟨_, e.trans e2, hp⟩⟩
def spLwhole (K : PySem.W.Frag) : Sp := fun vs H Q _ => ∃ (i : Int), vs = [.int i] ∧ KQ Q (.bl true) H
theorem k_Lwhole {K : PySem.W.Frag} {H : Hp} {P : V → Hp → Prop} {i : Int} (hp : P (.bl true) H) : SpK (spLwhole K) [.int i] H P := fun _ H1 e Q q => ⟨i, rfl, fun H2 e2 => q _ _ ⟨_, e.trans e2, hp⟩⟩

/-- only asked for rows unlike -/
def spway (K : PySem.W.Frag) (C : Addr) : Sp := fun vs H Q E => ∃ (a b : Addr) (ns ms : List Int), vs = [.ref a, .ref b] ∧ SqL K H a (ns.map V.int) ∧ SqL K H b (ms.map V.int) ∧ ns.length ≤ 500 ∧ ¬ Pw.Alike ns ms ∧ KE E (.ref C) none H
theorem k_way {K : PySem.W.Frag} {C : Addr} {E : XK} {H : Hp} {P : V → Hp → Prop} {a b : Addr} {ns ms : List Int} (h : SqL K H a (ns.map V.int)) (h2 : SqL K H b (ms.map V.int)) (hl : ns.length ≤ 500) (na : ¬ Pw.Alike ns ms) (he : KE E (.ref C) none H) : Kc (fun H Q => spway K C [.ref a, .ref b] H Q E) H P := fun H1 e Q q =>
  ⟨a, b, ns, ms, rfl, ex_l e h, ex_l e h2, hl, na, he.up e⟩
def spLasked (K : PySem.W.Frag) (C : Addr) : Sp := fun vs H Q E => ∃ (i : Int) (a b : Addr) (ns ms : List Int), vs = [.int i, .ref a, .ref b] ∧ SqL K H a (ns.map V.int) ∧ SqL K H b (ms.map V.int) ∧ ns.length ≤ 500 ∧ ¬ Pw.Alike ns ms ∧ KE E (.ref C) none H
theorem k_Lasked {K : PySem.W.Frag} {C : Addr} {E : XK} {H : Hp} {P : V → Hp → Prop} {i : Int} {a b : Addr} {ns ms : List Int} (h : SqL K H a (ns.map V.int)) (h2 : SqL K H b (ms.map V.int)) (hl : ns.length ≤ 500) (na : ¬ Pw.Alike ns ms) (he : KE E (.ref C) none H) : Kc (fun H Q => spLasked K C [.int i, .ref a, .ref b] H Q E) H P := fun H1 e Q q =>
  ⟨i, a, b, ns, ms, rfl, ex_l e h, ex_l e h2, hl, na, he.up e⟩
def spLpurse (K : PySem.W.Frag) : Sp := fun vs H Q _ => ∃ (c : Int) (s : Bool), vs = [.int c, .bl s] ∧ ∀ z : Int, KQ Q (.int z) H
theorem k_Lpurse {K : PySem.W.Frag} {H : Hp} {P : V → Hp → Prop} {c : Int} {s : Bool} (hp : ∀ z : Int, P (.int z) H) : SpK (spLpurse K) [.int c, .bl s] H P := fun _ H1 e Q q =>
  ⟨c, s, rfl, fun z H2 e2 => q _ _ ⟨H, e.trans e2, hp z⟩⟩
def spLlevel (K : PySem.W.Frag) : Sp := fun vs H Q _ => ∃ (a : Addr) (ns : List Int), vs = [.ref a] ∧ SqL K H a (ns.map V.int) ∧ 0 < ns.length ∧ ns.length ≤ 500 ∧ ∀ p, H p = none → KQ Q (.ref p) (upd H p (.lst ((Pm.level ns.length ns.sum).map V.int)))
theorem k_Llevel {K : PySem.W.Frag} {H : Hp} {P : V → Hp → Prop} {a : Addr} {ns : List Int} (h : SqL K H a (ns.map V.int)) (h0 : 0 < ns.length) (hl : ns.length ≤ 500) (hp : ∀ p, H p = none → P (.ref p) (upd H p (.lst ((Pm.level ns.length ns.sum).map V.int)))) : SpK (spLlevel K) [.ref a] H P := fun _ H1 e Q q =>
  ⟨a, ns, rfl, ex_l e h, h0, hl, fun p np H2 e2 => q _ _ ⟨_, (Ex.updm e).trans e2, hp p (fresh_back e np)⟩⟩
def spLpair (K : PySem.W.Frag) : Sp := fun vs H Q _ => ∃ (a : Addr) (ss : List Int), vs = [.ref a] ∧ SqL K H a (ss.map V.int) ∧ ss.length ≤ 63 ∧ ∀ (p x y : Addr) (ns ms : List Int) H', Ex H H' → SqT K H' p [.ref x, .ref y] → SqL K H' x (ns.map V.int) → SqL K H' y (ms.map V.int) → Pw.Alike ns ms → ns.length ≤ 200 → KQ Q (.ref p) H'
theorem k_Lpair {K : PySem.W.Frag} {H : Hp} {P : V → Hp → Prop} {a : Addr} {ss : List Int} (h : SqL K H a (ss.map V.int)) (hl : ss.length ≤ 63) (hp : ∀ (p x y : Addr) (ns ms : List Int) H', Ex H H' → SqT K H' p [.ref x, .ref y] → SqL K H' x (ns.map V.int) → SqL K H' y (ms.map V.int) → Pw.Alike ns ms → ns.length ≤ 200 → P (.ref p) H') : SpK (spLpair K) [.ref a] H P := fun _ H1 e Q q =>
  ⟨a, ss, rfl, ex_l e h, hl, fun p x y ns ms H' e' h1 h2 h3 h4 h5 H2 e2 => q _ _ ⟨H', e2, hp p x y ns ms H' (e.trans e') h1 h2 h3 h4 h5⟩⟩
def spLpair_good (K : PySem.W.Frag) : Sp := fun vs H Q _ => ∃ (a b : Addr) (ns ms : List Int), vs = [.ref a, .ref b] ∧ SqL K H a (ns.map V.int) ∧ SqL K H b (ms.map V.int) ∧ ns.length ≤ 500 ∧ Pw.Alike ns ms ∧ KQ Q (.bl true) H
theorem k_Lpair_good {K : PySem.W.Frag} {H : Hp} {P : V → Hp → Prop} {a b : Addr} {ns ms : List Int} (h : SqL K H a (ns.map V.int)) (h2 : SqL K H b (ms.map V.int)) (hl : ns.length ≤ 500) (al : Pw.Alike ns ms) (hp : P (.bl true) H) : SpK (spLpair_good K) [.ref a, .ref b] H P := fun _ H1 e Q q =>
  ⟨a, b, ns, ms, rfl, ex_l e h, ex_l e h2, hl, al, fun H2 e2 => q _ _ ⟨_, e.trans e2, hp⟩⟩
def spLunlike (K : PySem.W.Frag) : Sp := fun vs H Q _ => ∃ (i : Int) (a b : Addr) (ns ms : List Int), vs = [.int i, .ref a, .ref b] ∧ SqL K H a (ns.map V.int) ∧ SqL K H b (ms.map V.int) ∧ ns.length ≤ 500 ∧ ¬ Pw.Alike ns ms ∧ KQ Q (.bl true) H
theorem k_Lunlike {K : PySem.W.Frag} {H : Hp} {P : V → Hp → Prop} {i : Int} {a b : Addr} {ns ms : List Int} (h : SqL K H a (ns.map V.int)) (h2 : SqL K H b (ms.map V.int)) (hl : ns.length ≤ 500) (al : ¬ Pw.Alike ns ms) (hp : P (.bl true) H) : SpK (spLunlike K) [.int i, .ref a, .ref b] H P := fun _ H1 e Q q =>
  ⟨i, a, b, ns, ms, rfl, ex_l e h, ex_l e h2, hl, al, fun H2 e2 => q _ _ ⟨_, e.trans e2, hp⟩⟩
def spLall_unlike (K : PySem.W.Frag) : Sp := fun vs H Q _ => ∃ (a b : Addr) (ns ms : List Int), vs = [.ref a, .ref b] ∧ SqL K H a (ns.map V.int) ∧ SqL K H b (ms.map V.int) ∧ ns.length ≤ 500 ∧ ms.length ≤ 500 ∧ ¬ Pw.Alike ns ms ∧ KQ Q (.bl true) H
theorem k_Lall_unlike {K : PySem.W.Frag} {H : Hp} {P : V → Hp → Prop} {a b : Addr} {ns ms : List Int} (h : SqL K H a (ns.map V.int)) (h2 : SqL K H b (ms.map V.int)) (hl : ns.length ≤ 500) (hl2 : ms.length ≤ 500) (al : ¬ Pw.Alike ns ms) (hp : P (.bl true) H) : SpK (spLall_unlike K) [.ref a, .ref b] H P := fun _ H1 e Q q =>
  ⟨a, b, ns, ms, rfl, ex_l e h, ex_l e h2, hl, hl2, al, fun H2 e2 => q _ _ ⟨_, e.trans e2, hp⟩⟩
def spLaw (K : PySem.W.Frag) : Sp := fun vs H Q _ => ∃ (a : Addr) (ns : List Int), vs = [.ref a] ∧ SqL K H a (ns.map V.int) ∧ ns.length ≤ 63 ∧ (∀ z ∈ ns, Builtin.Int.intBits z ≤ 1048576) ∧ ∀ H', Q (.bl true) H'

section
variable {P : Program} {w : World} {K : PySem.W.Frag} {mg : Str → Option Value} {base : Heap}
theorem ok_Lcell_at {C_PurseError C_NoGift C_Unlike C_Gap C_NoText : Addr} (T : TxtE K mg C_PurseError C_NoGift C_Unlike C_Gap C_NoText) {f : Addr} {fd : FuncData} (F : Fun K "_law_cell_at" "_law_cell_at" s_Lcell_at f fd) (B : Bl mg) : FnOk P w K mg base CX0 1 f fd ["_law_script", "_law_k"] (spLcell_at K) := by
  refine F.ok sc_Lcell_at (fun vs H Q E h => ?_) (fun cdv A outer s H vs Q E hr h => ?_)
  · obtain ⟨a, ns, k, rfl, _⟩ := h
    rfl
  · obtain ⟨a, ns, k, rfl, hS, h0, q⟩ := h
    refine ⟨_, (pss_cons (ps_if (pt_cmpR op_lt (pv 1) (pe_callB (bLen (K := K)) (by rfl) B.len_ boot_len (pa_cons (pv 0) pa_nil)) (nomark _)) (pss_one (ps_ret (pe_ix (ixl (K := K)) (pv 0) (pv 1) (fun _ _ => rfl)))) pss_nil)
      (pss_one (ps_ret pe_int))), Go.here ?_⟩
    walk_at "s"; walk_at "ks"
    refine c_len hS ?_
    walk_at "ks"
    rw [List.length_map]
    refine ⟨fun hb => ?_, fun hb => ?_⟩
    · walk_at "s"; walk_at "ks"
      have hb' := of_decide_eq_true hb
      refine r_ixL hS (at_getD h0 hb') ?_
      unfold cellAt at q
      rw [if_pos hb'] at q
      exact q
    · walk_at "s"; walk_at "ks"
      unfold cellAt at q
      rw [if_neg (of_decide_eq_false hb)] at q
      exact q

theorem ok_tops {C_PurseError C_NoGift C_Unlike C_Gap C_NoText : Addr} (T : TxtE K mg C_PurseError C_NoGift C_Unlike C_Gap C_NoText) {f : Addr} {fd : FuncData} (F : Fun K "tops" "tops" s_tops f fd) (B : Bl mg) : FnOk P w K mg base CX0 1 f fd ["row"] (spTops K) := by
  refine F.ok sc_tops (fun vs H Q E h => ?_) (fun cdv A outer s H vs Q E hr h => ?_)
  · obtain ⟨a, ns, rfl, _⟩ := h
    rfl
  · obtain ⟨a, ns, rfl, hS, hl, q⟩ := h
    refine ⟨_, (pss_cons (ps_set (i := 1) sc_tops.nd rfl (Or.inl rfl) (pe_lst (pa_cons pe_int pa_nil)))
      (pss_cons (ps_set (i := 2) sc_tops.nd rfl (Or.inl rfl) pe_int)
      (pss_cons (ps_for PassesOwn.never rfl (piL (K := K) (pe_callBK (bSrtR (K := K)) (by rfl) B.sorted_ boot_sorted (pa_cons (pv 0) pa_nil) (pk_cons pe_bl pk_nil))) (pg_name (i := 3) sc_tops.nd rfl (Or.inl rfl)) (pss_cons (ps_set (i := 2) sc_tops.nd rfl (Or.inl rfl) (pe_op op_add (pv 2) (pv 3)))
      (pss_one (ps_expr (peBm (K := K) PySem.F.plainAttrs_list PySem.F.slot_list_append PySem.F.type_list_append mt_append (pv 1) (pa_cons (pv 2) pa_nil))))))
      (pss_one (ps_ret (pv 1)))))), Go.here ?_⟩
    walk_at "s"; walk_at "ks"
    refine ⟨(by show 1 ≤ 100000; decide), fun p np => ?_⟩
    walk_at "s"; walk_at "ks"
    have hS2 := sq_up (o := .lst [V.int 0]) hS np
    refine gs_forF ?_
    walk_at "ks"
    refine Pm.c_sortedRev hS2 fun c nc => ?_
    obtain ⟨nc0, ncp⟩ := none_of_up nc
    have hlen : (Pm.sd ns).length = ns.length := Pm.sd_len ns
    refine ⟨c, (Pm.sd ns).map V.int, fun i σ' H' => ∃ (v : Option V), σ' = [some (.ref a), some (.ref p), some (.int ((Pm.sd ns).take i).sum), v] ∧ H' = upd (upd H c (.lst ((Pm.sd ns).map V.int))) p (.lst (((List.range (i + 1)).map fun k => ((Pm.sd ns).take k).sum).map V.int)), rfl, sq_of upd_same, ⟨none, rfl, ?_⟩, ?_, ?_, ?_⟩
    · funext b
      unfold upd
      by_cases h1 : b = p
      · subst h1
        rw [if_neg (Ne.symm ncp), if_pos rfl, if_pos rfl]
        rfl
      · rw [if_neg h1, if_neg h1]
    · rintro i σ' H' _ ⟨v, _, rfl⟩
      exact sq_of (by rw [upd_ne ncp, upd_same])
    · rintro i x σ' H' hx ⟨v, rfl, rfl⟩
      obtain ⟨z, hz, rfl⟩ := Pm.map_at hx
      have hi : i < (Pm.sd ns).length := (List.getElem?_eq_some_iff.mp hz).1
      walk_at "s"; walk_at "ks"
      walk_at "s"; walk_at "ks"
      refine ⟨tyl (sq_of upd_same), ?_⟩
      walk_at "ks"
      refine m_append upd_same (by rw [List.length_map, List.length_map, List.length_range]; omega) fun H1 e1 => ⟨_, e1, some (.int z), ?_, ?_⟩
      · rw [Pm.sum_take hz]
        rfl
      · rw [upd_upd, List.range_succ (n := i + 1), List.map_append, List.map_append]
        show _ = upd _ p (.lst (_ ++ [V.int ((Pm.sd ns).take (i + 1)).sum]))
        rw [Pm.sum_take hz]
    · rintro σ' H' ⟨v, rfl, rfl⟩
      walk_at "s"; walk_at "ks"
      rw [List.length_map]
      exact (q p np).up (Ex.updm (Ex.new nc0))

theorem ok_together {C_PurseError C_NoGift C_Unlike C_Gap C_NoText : Addr} (T : TxtE K mg C_PurseError C_NoGift C_Unlike C_Gap C_NoText) {f : Addr} {fd : FuncData} (F : Fun K "together" "together" s_together f fd) (B : Bl mg) : FnOk P w K mg base (L2.CX P w) 1 f fd ["one", "other"] (sptogether K C_Unlike) := by
  refine F.okX sc_together (fun vs H Q E h => ?_) (fun cdv A outer s H vs Q E hr h => ?_)
  · obtain ⟨a, b, ns, ms, rfl, _⟩ := h
    rfl
  · obtain ⟨a, b, ns, ms, rfl, hS, hT, qe, qk⟩ := h
    refine ⟨_, (pss_one (ps_if (PW.pt (pw_or (pt_cmpR op_ne (pe_callB (bLen (K := K)) (by rfl) B.len_ boot_len (pa_cons (pv 0) pa_nil)) (pe_callB (bLen (K := K)) (by rfl) B.len_ boot_len (pa_cons (pv 1) pa_nil)) (nomark _)) (pw_or1 (pt_cmpR op_ne (pe_callB (bSum (K := K) rfl) (by rfl) B.sum_ boot_sum (pa_cons (pv 0) pa_nil)) (pe_callB (bSum (K := K) rfl) (by rfl) B.sum_ boot_sum (pa_cons (pv 1) pa_nil)) (nomark _))))) (pss_one (ps_raise rfl (takes_of rfl rfl rfl rfl) (pmk_own PySem.F.excBase_ValueError T.x_Unlike T.g_Unlike T.k_Unlike (raises_own T.b_Unlike T.t_Unlike) rfl))) pss_nil)), Go.here ?_⟩
    walk_at "s"; walk_at "ks"
    refine c_len hS ?_
    walk_at "ks"
    refine c_len hT ?_
    walk_at "ks"
    rw [List.length_map, List.length_map]
    refine ⟨fun hb => ⟨fun _ => ?_, fun h => Bool.noConfusion h⟩, fun hb => ?_⟩
    · rw [Bool.not_eq_true'] at hb
      have h1 := of_decide_eq_false hb
      exact fun H1 e1 => qe (fun al => h1 (by rw [al.1])) H1 e1
    rw [Bool.not_eq_false'] at hb
    have h1 := of_decide_eq_true hb
    walk_at "ks"
    refine c_sum hS ?_
    walk_at "ks"
    refine c_sum hT ?_
    walk_at "ks"
    refine ⟨fun hb => ?_, fun hb => ?_⟩
    · rw [Bool.not_eq_true'] at hb
      have h2 := of_decide_eq_false hb
      exact fun H1 e1 => qe (fun al => h2 al.2) H1 e1
    · rw [Bool.not_eq_false'] at hb
      have h2 := of_decide_eq_true hb
      exact g1_next fun H1 e1 => qk ⟨by omega, h2⟩ H1 e1
theorem ok_gap {C_PurseError C_NoGift C_Unlike C_Gap C_NoText : Addr} (T : TxtE K mg C_PurseError C_NoGift C_Unlike C_Gap C_NoText) {f : Addr} {fd : FuncData} (F : Fun K "gap" "gap" s_gap f fd) (B : Bl mg) {f_together : Addr} {fd_together : FuncData} (c_together : Cl P w K mg base (L2.CX P w) 1 "together" f_together fd_together ["one", "other"] (sptogether K C_Unlike)) {f_tops : Addr} {fd_tops : FuncData} (c_tops : Cl P w K mg base CX0 1 "tops" f_tops fd_tops ["row"] (spTops K)) : FnOk P w K mg base (L2.CX P w) 2 f fd ["one", "other"] (spgap K C_Unlike) := by
  refine F.okX sc_gap (fun vs H Q E h => ?_) (fun cdv A outer s H vs Q E hr h => ?_)
  · obtain ⟨a, b, ns, ms, rfl, _⟩ := h
    rfl
  · obtain ⟨a, b, ns, ms, rfl, hS, hT, hl, qe, qk⟩ := h
    refine ⟨_, (pss_cons (ps_expr (peX (E := E) (pe_call c_together.ok (hr.mono (by decide)) (by rfl) c_together.gl c_together.kp c_together.bd .nil (passes_call (takes_of rfl rfl rfl rfl) (fun _ _ _ _ h => h)) (pa_cons (pv 0) (pa_cons (pv 1) pa_nil)))))
      (pss_cons (ps_set (i := 2) sc_gap.nd rfl (Or.inl rfl) (pe_call c_tops.ok (hr.mono (by decide)) (by rfl) c_tops.gl c_tops.kp c_tops.bd .nil pass0 (pa_cons (pv 0) pa_nil)))
      (pss_cons (ps_set (i := 3) sc_gap.nd rfl (Or.inl rfl) (pe_call c_tops.ok (hr.mono (by decide)) (by rfl) c_tops.gl c_tops.kp c_tops.bd .nil pass0 (pa_cons (pv 1) pa_nil)))
      (pss_cons (ps_for (passes_of rfl) rfl (pi_range1 (by rfl) B.range_ (pa_cons (pe_callB (bLen (K := K)) (by rfl) B.len_ boot_len (pa_cons (pv 2) pa_nil)) pa_nil)) (pg_name (i := 4) sc_gap.nd rfl (Or.inl rfl)) (pss_one (ps_if (pt_cmpR op_gt (pe_ix (ixl (K := K)) (pv 3) (pv 4) (fun _ _ => rfl)) (pe_ix (ixl (K := K)) (pv 2) (pv 4) (fun _ _ => rfl)) (nomark _)) (pss_one (ps_ret (pv 4))) pss_nil)))
      (pss_one (ps_ret pe_non)))))), Go.here ?_⟩
    walk_at "s"; walk_at "ks"
    refine k_callX ?_
    walk_at "ks"
    refine k_together hS hT qe fun al => ?_
    have al1 := al.1
    walk_at "s"; walk_at "ks"
    refine k_tops hS (by omega) fun p np => ?_
    have e1 : Ex H (upd H p (.lst ((Pm.tops ns).map V.int))) := Ex.new np
    have p1 : (upd H p (.lst ((Pm.tops ns).map V.int))) p = some (.lst ((Pm.tops ns).map V.int)) := upd_same
    generalize upd H p (.lst ((Pm.tops ns).map V.int)) = H1 at e1 p1
    walk_at "s"; walk_at "ks"
    refine k_tops (ex_l e1 hT) (by omega) fun r nr => ?_
    have e2 : Ex H (upd H1 r (.lst ((Pm.tops ms).map V.int))) := e1.trans (Ex.new nr)
    have p2 := at_up (o := .lst ((Pm.tops ms).map V.int)) p1 nr
    have r2 : (upd H1 r (.lst ((Pm.tops ms).map V.int))) r = some (.lst ((Pm.tops ms).map V.int)) := upd_same
    generalize upd H1 r (.lst ((Pm.tops ms).map V.int)) = H2 at e2 p2 r2
    refine gs_forR (n := (ns.length : Int) + 1) (fun i σ' H' => ∃ v : Option V, σ' = [some (.ref a), some (.ref b), some (.ref p), some (.ref r), v] ∧ H2 = H' ∧ ∀ j, j < i → Pw.top ms j ≤ Pw.top ns j) ?_ ?_ ?_
    · walk_at "ks"
      refine c_len (sq_of p2) ?_
      rw [List.length_map, Pm.tops_len]
      walk_at "ks"
      exact ⟨rfl, by omega, by omega, none, rfl, rfl, fun j hj => absurd hj (by omega)⟩
    · rintro i σ' H' hi ⟨v, rfl, rfl, hj⟩
      walk_at "s"; walk_at "ks"
      refine r_ixL (v := .int (Pw.top ms i)) (sq_of r2) (Pm.atI_map (Pw.top_at (by omega))) ?_
      walk_at "ks"
      refine r_ixL (v := .int (Pw.top ns i)) (sq_of p2) (Pm.atI_map (Pw.top_at (by omega))) ?_
      walk_at "ks"
      refine ⟨fun hb => ?_, fun hb => ?_⟩
      · have h1 := of_decide_eq_true hb
        walk_at "s"; walk_at "ks"
        exact (qk al (some i) ⟨by omega, by omega, hj⟩).up e2
      · have h1 := of_decide_eq_false hb
        refine g1_next fun H3 e3 => ⟨_, e3, _, rfl, rfl, fun j hj2 => ?_⟩
        by_cases c : j < i
        · exact hj j c
        · obtain rfl : j = i := by omega
          omega
    · rintro σ' H' ⟨v, rfl, rfl, hj⟩
      walk_at "s"; walk_at "ks"
      exact (qk al none fun k hk => hj k (by omega)).up e2
theorem ok_dues {C_PurseError C_NoGift C_Unlike C_Gap C_NoText : Addr} (T : TxtE K mg C_PurseError C_NoGift C_Unlike C_Gap C_NoText) {f : Addr} {fd : FuncData} (F : Fun K "dues" "dues" s_dues f fd) (B : Bl mg) {f_together : Addr} {fd_together : FuncData} (c_together : Cl P w K mg base (L2.CX P w) 1 "together" f_together fd_together ["one", "other"] (sptogether K C_Unlike)) : FnOk P w K mg base (L2.CX P w) 2 f fd ["one", "other"] (spdues K C_Unlike) := by
  refine F.okX sc_dues (fun vs H Q E h => ?_) (fun cdv A outer s H vs Q E hr h => ?_)
  · obtain ⟨a, b, ns, ms, rfl, _⟩ := h
    rfl
  · obtain ⟨a, b, ns, ms, rfl, hS, hT, hl, qe, qk⟩ := h
    refine ⟨_, (pss_cons (ps_expr (peX (E := E) (pe_call c_together.ok (hr.mono (by decide)) (by rfl) c_together.gl c_together.kp c_together.bd .nil (passes_call (takes_of rfl rfl rfl rfl) (fun _ _ _ _ h => h)) (pa_cons (pv 0) (pa_cons (pv 1) pa_nil)))))
      (pss_cons (ps_set (i := 2) sc_dues.nd rfl (Or.inl rfl) pe_int)
      (pss_cons (ps_for (passes_of rfl) rfl (piZ (K := K) (by rfl) B.zip_ (pa_cons (pe_callBK (bSrtR (K := K)) (by rfl) B.sorted_ boot_sorted (pa_cons (pv 0) pa_nil) (pk_cons pe_bl pk_nil)) (pa_cons (pe_callBK (bSrtR (K := K)) (by rfl) B.sorted_ boot_sorted (pa_cons (pv 1) pa_nil) (pk_cons pe_bl pk_nil)) pa_nil))) (pgT (K := K) rfl (pgs_cons (pg_name (i := 3) sc_dues.nd rfl (Or.inl rfl)) (pgs_cons (pg_name (i := 4) sc_dues.nd rfl (Or.inl rfl)) pgs_nil))) (pss_one (ps_set (i := 2) sc_dues.nd rfl (Or.inl rfl) (pe_op op_add (pv 2) (pe_callB (call_max2 rfl) (by rfl) B.max_ boot_max (pa_cons pe_int (pa_cons (pe_op op_sub (pv 3) (pv 4)) pa_nil)))))))
      (pss_one (ps_ret (pv 2)))))), Go.here ?_⟩
    walk_at "s"; walk_at "ks"
    refine k_callX ?_
    walk_at "ks"
    refine k_together hS hT qe fun al => ?_
    have al1 := al.1
    walk_at "s"; walk_at "ks"
    refine gs_forZ ?_
    walk_at "ks"
    refine Pm.c_sortedRev hS fun p np => ?_
    have e1 : Ex H (upd H p (.lst ((Pm.sd ns).map V.int))) := Ex.new np
    have p1 : (upd H p (.lst ((Pm.sd ns).map V.int))) p = some (.lst ((Pm.sd ns).map V.int)) := upd_same
    generalize upd H p (.lst ((Pm.sd ns).map V.int)) = H1 at e1 p1
    walk_at "ks"
    refine Pm.c_sortedRev (ex_l e1 hT) fun r nr => ?_
    have e2 : Ex H (upd H1 r (.lst ((Pm.sd ms).map V.int))) := e1.trans (Ex.new nr)
    have p2 := at_up (o := .lst ((Pm.sd ms).map V.int)) p1 nr
    have r2 : (upd H1 r (.lst ((Pm.sd ms).map V.int))) r = some (.lst ((Pm.sd ms).map V.int)) := upd_same
    generalize upd H1 r (.lst ((Pm.sd ms).map V.int)) = H2 at e2 p2 r2
    walk_at "ks"
    refine ⟨p, r, (Pm.sd ns).map V.int, (Pm.sd ms).map V.int, fun j σ' H' => ∃ (v3 v4 : Option V), σ' = [some (.ref a), some (.ref b), some (.int ((List.zipWith Pw.dz (Pm.sd ns) (Pm.sd ms)).take j).sum), v3, v4] ∧ H2 = H', rfl, sq_of p2, sq_of r2, by rw [List.length_map, List.length_map, Pm.sd_len, Pm.sd_len, al1], ⟨none, none, rfl, rfl⟩, ?_, ?_, ?_⟩
    · rintro j σ' H' ⟨_, _, _, rfl⟩
      exact ⟨sq_of p2, sq_of r2⟩
    · rintro j x y σ' H' hx hy ⟨_, _, rfl, rfl⟩
      obtain ⟨x, gx, rfl⟩ := Pm.map_at hx
      obtain ⟨y, gy, rfl⟩ := Pm.map_at hy
      refine gk_name (gk_name ?_)
      walk_at "s"; walk_at "ks"
      refine c_max2 ?_
      walk_at "ks"
      refine fun H3 e3 => ⟨_, e3, some (.int x), some (.int y), ?_, rfl⟩
      rw [Pm.sum_take (Pw.zip_at gx gy)]
      rfl
    · rintro σ' H' ⟨v3, v4, rfl, rfl⟩
      walk_at "s"; walk_at "ks"
      rw [List.take_of_length_le (by rw [List.length_zipWith, List.length_map]; omega)]
      exact (qk al).up e2

theorem ok_Lwhole {C_PurseError C_NoGift C_Unlike C_Gap C_NoText : Addr} (T : TxtE K mg C_PurseError C_NoGift C_Unlike C_Gap C_NoText) {f : Addr} {fd : FuncData} (F : Fun K "_law_whole" "_law_whole" s_Lwhole f fd) (B : Bl mg) : FnOk P w K mg base CX0 1 f fd ["_law_found"] (spLwhole K) := by
  refine F.ok sc_Lwhole (fun vs H Q E h => ?_) (fun cdv A outer s H vs Q E hr h => ?_)
  · obtain ⟨i, rfl, _⟩ := h
    rfl
  · obtain ⟨i, rfl, q⟩ := h
    refine ⟨_, (pss_one (ps_ret (pe_and (pe_callB (bIsi (K := K)) (by rfl) B.isinstance_ boot_isinstance (pa_cons (pv 0) (pa_cons (pe_bltn (v := .ty "int") (by rfl) B.int_ boot_int rfl) pa_nil))) (pe_one (pe_not (pe_callB (bIsi (K := K)) (by rfl) B.isinstance_ boot_isinstance (pa_cons (pv 0) (pa_cons (pe_bltn (v := .ty "bool") (by rfl) B.bool_ boot_bool rfl) pa_nil)))))))), Go.here ?_⟩
    walk_at "s"; walk_at "ks"
    refine c_int_int ?_
    walk_at "ks"
    refine ⟨fun _ => ?_, fun hb => Bool.noConfusion hb⟩
    walk_at "ks"
    refine c_int_bool ?_
    walk_at "ks"
    exact q
theorem ok_Lgap {C_PurseError C_NoGift C_Unlike C_Gap C_NoText : Addr} (T : TxtE K mg C_PurseError C_NoGift C_Unlike C_Gap C_NoText) {f : Addr} {fd : FuncData} (F : Fun K "_law_gap" "_law_gap" s_Lgap f fd) (B : Bl mg) : FnOk P w K mg base CX0 1 f fd ["_law_one", "_law_other"] (spLgap K) := by
  refine F.ok sc_Lgap (fun vs H Q E h => ?_) (fun cdv A outer s H vs Q E hr h => ?_)
  · obtain ⟨a, b, ns, ms, rfl, _⟩ := h
    rfl
  · obtain ⟨a, b, ns, ms, rfl, hS, hT, hl, al1, qk⟩ := h
    refine ⟨_, (pss_cons (ps_set (i := 2) sc_Lgap.nd rfl (Or.inl rfl) (pe_callBK (bSrtR (K := K)) (by rfl) B.sorted_ boot_sorted (pa_cons (pv 0) pa_nil) (pk_cons pe_bl pk_nil)))
      (pss_cons (ps_set (i := 3) sc_Lgap.nd rfl (Or.inl rfl) (pe_callBK (bSrtR (K := K)) (by rfl) B.sorted_ boot_sorted (pa_cons (pv 1) pa_nil) (pk_cons pe_bl pk_nil)))
      (pss_cons (ps_set (i := 4) sc_Lgap.nd rfl (Or.inl rfl) pe_int)
      (pss_cons (ps_for PassesOwn.never rfl (pi_range1 (by rfl) B.range_ (pa_cons (pe_callB (bLen (K := K)) (by rfl) B.len_ boot_len (pa_cons (pv 2) pa_nil)) pa_nil)) (pg_name (i := 5) sc_Lgap.nd rfl (Or.inl rfl)) (pss_cons (ps_set (i := 4) sc_Lgap.nd rfl (Or.inl rfl) (pe_op op_sub (pe_op op_add (pv 4) (pe_ix (ixl (K := K)) (pv 3) (pv 5) (fun _ _ => rfl))) (pe_ix (ixl (K := K)) (pv 2) (pv 5) (fun _ _ => rfl))))
      (pss_one (ps_if (pt_cmpR op_gt (pv 4) pe_int (nomark _)) (pss_one (ps_ret (pe_op op_add (pv 5) pe_int))) pss_nil))))
      (pss_one (ps_ret pe_non)))))), Go.here ?_⟩
    walk_at "s"; walk_at "ks"
    refine Pm.c_sortedRev hS fun p np => ?_
    have e1 : Ex H (upd H p (.lst ((Pm.sd ns).map V.int))) := Ex.new np
    have p1 : (upd H p (.lst ((Pm.sd ns).map V.int))) p = some (.lst ((Pm.sd ns).map V.int)) := upd_same
    generalize upd H p (.lst ((Pm.sd ns).map V.int)) = H1 at e1 p1
    walk_at "s"; walk_at "ks"
    refine Pm.c_sortedRev (ex_l e1 hT) fun r nr => ?_
    have e2 : Ex H (upd H1 r (.lst ((Pm.sd ms).map V.int))) := e1.trans (Ex.new nr)
    have p2 := at_up (o := .lst ((Pm.sd ms).map V.int)) p1 nr
    have r2 : (upd H1 r (.lst ((Pm.sd ms).map V.int))) r = some (.lst ((Pm.sd ms).map V.int)) := upd_same
    generalize upd H1 r (.lst ((Pm.sd ms).map V.int)) = H2 at e2 p2 r2
    walk_at "s"; walk_at "ks"
    refine gs_forR (n := (ns.length : Int)) (fun i σ' H' => ∃ v : Option V, σ' = [some (.ref a), some (.ref b), some (.ref p), some (.ref r), some (.int (Pw.top ms i - Pw.top ns i)), v] ∧ H2 = H' ∧ ∀ j, j < i + 1 → Pw.top ms j ≤ Pw.top ns j) ?_ ?_ ?_
    · walk_at "ks"
      refine c_len (sq_of p2) ?_
      rw [List.length_map, Pm.sd_len]
      walk_at "ks"
      refine ⟨rfl, by omega, by omega, none, rfl, rfl, fun j hj => ?_⟩
      obtain rfl : j = 0 := by omega
      exact Int.le_refl _
    · rintro i σ' H' hi ⟨v, rfl, rfl, hj⟩
      obtain ⟨x, gx⟩ : ∃ x, (Pm.sd ns)[i]? = some x := ⟨_, List.getElem?_eq_getElem (by rw [Pm.sd_len]; omega)⟩
      obtain ⟨y, gy⟩ : ∃ x, (Pm.sd ms)[i]? = some x := ⟨_, List.getElem?_eq_getElem (by rw [Pm.sd_len]; omega)⟩
      have tx := Pw.top_succ gx
      have ty := Pw.top_succ gy
      walk_at "s"; walk_at "ks"
      refine r_ixL (v := .int y) (sq_of r2) (Pm.atI_map gy) ?_
      walk_at "ks"
      refine r_ixL (v := .int x) (sq_of p2) (Pm.atI_map gx) ?_
      walk_at "ks"
      walk_at "s"; walk_at "ks"
      refine ⟨fun hb => ?_, fun hb => ?_⟩
      · have h1 := of_decide_eq_true hb
        walk_at "s"; walk_at "ks"
        exact (qk (some (i + 1)) ⟨by omega, by omega, hj⟩).up e2
      · have h1 := of_decide_eq_false hb
        refine g1_next fun H3 e3 => ⟨_, e3, some (.int (i : Int)), ?_, rfl, fun j hj2 => ?_⟩
        · rw [tx, ty]
          have e : Pw.top ms i - Pw.top ns i + y - x = Pw.top ms i + y - (Pw.top ns i + x) := by omega
          rw [e]
          rfl
        by_cases c : j < i + 1
        · exact hj j c
        · obtain rfl : j = i + 1 := by omega
          omega
    · rintro σ' H' ⟨v, rfl, rfl, hj⟩
      walk_at "s"; walk_at "ks"
      exact (qk none fun k hk => hj k (by omega)).up e2
theorem ok_Ldues {C_PurseError C_NoGift C_Unlike C_Gap C_NoText : Addr} (T : TxtE K mg C_PurseError C_NoGift C_Unlike C_Gap C_NoText) {f : Addr} {fd : FuncData} (F : Fun K "_law_dues" "_law_dues" s_Ldues f fd) (B : Bl mg) : FnOk P w K mg base CX0 1 f fd ["_law_one", "_law_other"] (spLdues K) := by
  refine F.ok sc_Ldues (fun vs H Q E h => ?_) (fun cdv A outer s H vs Q E hr h => ?_)
  · obtain ⟨a, b, ns, ms, rfl, _⟩ := h
    rfl
  · obtain ⟨a, b, ns, ms, rfl, hS, hT, hl, al1, qk⟩ := h
    refine ⟨_, (pss_cons (ps_set (i := 2) sc_Ldues.nd rfl (Or.inr rfl) (pe_callBK (bSrtR (K := K)) (by rfl) B.sorted_ boot_sorted (pa_cons (pv 0) pa_nil) (pk_cons pe_bl pk_nil)))
      (pss_cons (ps_set (i := 3) sc_Ldues.nd rfl (Or.inr rfl) (pe_callBK (bSrtR (K := K)) (by rfl) B.sorted_ boot_sorted (pa_cons (pv 1) pa_nil) (pk_cons pe_bl pk_nil)))
      (pss_one (ps_ret (pe_callB (bSum (K := K) rfl) (by rfl) B.sum_ boot_sum (pa_cons (pe_lc (own := [("_law_k", 4)]) (g := gName 4) rfl sc_Ldues.nd (pi_range1 (by rfl) B.range_ (pa_cons (pe_callB (bLen (K := K)) (by rfl) B.len_ boot_len (pa_cons (pv 2) pa_nil)) pa_nil)) (blkOk_by (own := [("_law_k", 4)]) (N := n_Ldues) (sc := defScope s_Ldues) (by decide +kernel)) (fun _ _ _ _ _ => pg_name (i := 4) sc_Ldues.nd rfl (Or.inl rfl)) (fun _ _ _ _ _ => pts_one (pt_cmpR op_gt (pe_ix (ixl (K := K)) (pv 2) (pv 4) (fun _ _ => rfl)) (pe_ix (ixl (K := K)) (pv 3) (pv 4) (fun _ _ => rfl)) (nomark _))) (fun _ _ _ _ _ => (pe_op op_sub (pe_ix (ixl (K := K)) (pv 2) (pv 4) (fun _ _ => rfl)) (pe_ix (ixl (K := K)) (pv 3) (pv 4) (fun _ _ => rfl))))) pa_nil)))))), Go.here ?_⟩
    walk_at "s"; walk_at "ks"
    refine Pm.c_sortedRev hS fun p np => ?_
    have e1 : Ex H (upd H p (.lst ((Pm.sd ns).map V.int))) := Ex.new np
    have p1 : (upd H p (.lst ((Pm.sd ns).map V.int))) p = some (.lst ((Pm.sd ns).map V.int)) := upd_same
    generalize upd H p (.lst ((Pm.sd ns).map V.int)) = H1 at e1 p1
    walk_at "s"; walk_at "ks"
    refine Pm.c_sortedRev (ex_l e1 hT) fun r nr => ?_
    have e2 : Ex H (upd H1 r (.lst ((Pm.sd ms).map V.int))) := e1.trans (Ex.new nr)
    have p2 := at_up (o := .lst ((Pm.sd ms).map V.int)) p1 nr
    have r2 : (upd H1 r (.lst ((Pm.sd ms).map V.int))) r = some (.lst ((Pm.sd ms).map V.int)) := upd_same
    generalize upd H1 r (.lst ((Pm.sd ms).map V.int)) = H2 at e2 p2 r2
    walk_at "s"; walk_at "ks"
    refine k_lcWR ?_
    walk_at "ks"
    refine c_len (sq_of p2) ?_
    rw [List.length_map, Pm.sd_len]
    walk_at "ks"
    refine ⟨(ns.length : Int), fun D i acc Hy => ∃ zs : List Int, acc = zs.map V.int ∧ zs.length ≤ i ∧ zs.sum = ((List.zipWith Pw.dz (Pm.sd ns) (Pm.sd ms)).take i).sum ∧ upd H2 D (.lst acc) = Hy, rfl, by omega, by omega, fun D nD => ⟨[], rfl, Nat.zero_le _, rfl, rfl⟩, ?_, ?_, ?_⟩
    · rintro D i acc Hy nD ⟨zs, rfl, hz, hs, rfl⟩
      exact ⟨by rw [List.length_map]; exact hz, upd_same⟩
    · rintro D i acc Hy nD hi ⟨zs, rfl, hz, hs, rfl⟩
      obtain ⟨x, gx⟩ : ∃ x, (Pm.sd ns)[i]? = some x := ⟨_, List.getElem?_eq_getElem (by rw [Pm.sd_len]; omega)⟩
      obtain ⟨y, gy⟩ : ∃ x, (Pm.sd ms)[i]? = some x := ⟨_, List.getElem?_eq_getElem (by rw [Pm.sd_len]; omega)⟩
      have p3 := at_up (o := .lst (zs.map V.int)) p2 nD
      have r3 := at_up (o := .lst (zs.map V.int)) r2 nD
      have hst := Pm.sum_take (Pw.zip_at gx gy)
      refine gk_name ⟨rfl, ?_⟩
      walk_at "ks"
      refine r_ixL (v := .int x) (sq_of p3) (Pm.atI_map gx) ?_
      walk_at "ks"
      refine r_ixL (v := .int y) (sq_of r3) (Pm.atI_map gy) ?_
      walk_at "ks"
      refine ⟨fun hb => ?_, fun hb => ?_⟩
      · have h1 := of_decide_eq_true hb
        walk_at "ks"
        refine r_ixL (v := .int x) (sq_of p3) (Pm.atI_map gx) ?_
        walk_at "ks"
        refine r_ixL (v := .int y) (sq_of r3) (Pm.atI_map gy) ?_
        walk_at "ks"
        refine ⟨upd_same, zs ++ [x - y], by rw [List.map_append]; rfl, by rw [List.length_append]; show zs.length + 1 ≤ i + 1; omega, ?_, by rw [upd_upd]⟩
        rw [hst, List.sum_append, hs]
        unfold Pw.dz
        rw [if_pos (by omega)]
        simp
      · have h1 := of_decide_eq_false hb
        refine ⟨zs, rfl, by omega, ?_, rfl⟩
        rw [hst, hs]
        unfold Pw.dz
        rw [if_neg (by omega), Int.add_zero]
    · rintro D acc Hy nD ⟨zs, rfl, hz, hs, rfl⟩
      walk_at "ks"
      refine c_sum (ns := zs) (sq_of upd_same) ?_
      rw [hs, List.take_of_length_le (by rw [List.length_zipWith, Pm.sd_len]; omega)]
      exact qk.up (e2.trans (Ex.new nD))

theorem ok_way {C_PurseError C_NoGift C_Unlike C_Gap C_NoText : Addr} (T : TxtE K mg C_PurseError C_NoGift C_Unlike C_Gap C_NoText) {f : Addr} {fd : FuncData} (F : Fun K "way" "way" s_way f fd) (B : Bl mg) {f_gap : Addr} {fd_gap : FuncData} (c_gap : Cl P w K mg base (L2.CX P w) 2 "gap" f_gap fd_gap ["one", "other"] (spgap K C_Unlike)) : FnOk P w K mg base (L2.CX P w) 3 f fd ["one", "other"] (spway K C_Unlike) := by
  refine F.okX sc_way (fun vs H Q E h => ?_) (fun cdv A outer s H vs Q E hr h => ?_)
  · obtain ⟨a, b, ns, ms, rfl, _⟩ := h
    rfl
  · obtain ⟨a, b, ns, ms, rfl, hS, hT, hl, na, qe⟩ := h
    refine ⟨_, (pss_cons (ps_set (i := 2) sc_way.nd rfl (Or.inl rfl) (peX (E := E) (pe_call c_gap.ok (hr.mono (by decide)) (by rfl) c_gap.gl c_gap.kp c_gap.bd .nil (passes_call (takes_of rfl rfl rfl rfl) (fun _ _ _ _ h => h)) (pa_cons (pv 0) (pa_cons (pv 1) pa_nil)))))
      pss_never), Go.here ?_⟩
    walk_at "s"; walk_at "ks"
    refine k_callX ?_
    walk_at "ks"
    exact k_gap hS hT hl (fun _ => qe) fun al => absurd al na
theorem ok_Lasked {C_PurseError C_NoGift C_Unlike C_Gap C_NoText : Addr} (T : TxtE K mg C_PurseError C_NoGift C_Unlike C_Gap C_NoText) {f : Addr} {fd : FuncData} (F : Fun K "_law_asked" "_law_asked" s_Lasked f fd) (B : Bl mg) {f_dues : Addr} {fd_dues : FuncData} (c_dues : Cl P w K mg base (L2.CX P w) 2 "dues" f_dues fd_dues ["one", "other"] (spdues K C_Unlike)) {f_gap : Addr} {fd_gap : FuncData} (c_gap : Cl P w K mg base (L2.CX P w) 2 "gap" f_gap fd_gap ["one", "other"] (spgap K C_Unlike)) {f_way : Addr} {fd_way : FuncData} (c_way : Cl P w K mg base (L2.CX P w) 3 "way" f_way fd_way ["one", "other"] (spway K C_Unlike)) : FnOk P w K mg base (L2.CX P w) 4 f fd ["_law_which", "_law_one", "_law_other"] (spLasked K C_Unlike) := by
  refine F.okX sc_Lasked (fun vs H Q E h => ?_) (fun cdv A outer s H vs Q E hr h => ?_)
  · obtain ⟨i, a, b, ns, ms, rfl, _⟩ := h
    rfl
  · obtain ⟨i, a, b, ns, ms, rfl, hS, hT, hl, na, qe⟩ := h
    refine ⟨_, (pss_cons (ps_if (pt_cmpR op_eq (pv 0) pe_int (nomark _)) (pss_one (ps_ret (peX (E := E) (pe_call c_gap.ok (hr.mono (by decide)) (by rfl) c_gap.gl c_gap.kp c_gap.bd .nil (passes_call (takes_of rfl rfl rfl rfl) (fun _ _ _ _ h => h)) (pa_cons (pv 1) (pa_cons (pv 2) pa_nil)))))) pss_nil)
      (pss_cons (ps_if (pt_cmpR op_eq (pv 0) pe_int (nomark _)) (pss_one (ps_ret (peX (E := E) (pe_call c_dues.ok (hr.mono (by decide)) (by rfl) c_dues.gl c_dues.kp c_dues.bd .nil (passes_call (takes_of rfl rfl rfl rfl) (fun _ _ _ _ h => h)) (pa_cons (pv 1) (pa_cons (pv 2) pa_nil)))))) pss_nil)
      (pss_one (ps_ret (peX (E := E) (pe_call c_way.ok (hr.mono (by decide)) (by rfl) c_way.gl c_way.kp c_way.bd .nil (passes_call (takes_of rfl rfl rfl rfl) (fun _ _ _ _ h => h)) (pa_cons (pv 1) (pa_cons (pv 2) pa_nil)))))))), Go.here ?_⟩
    walk_at "s"; walk_at "ks"
    refine ⟨fun hb => ?_, fun hb => ?_⟩
    · walk_at "s"; walk_at "ks"
      refine k_callX ?_
      walk_at "ks"
      exact k_gap hS hT hl (fun _ => qe) fun al => absurd al na
    walk_at "s"; walk_at "ks"
    refine ⟨fun hb => ?_, fun hb => ?_⟩
    · walk_at "s"; walk_at "ks"
      refine k_callX ?_
      walk_at "ks"
      exact k_dues hS hT hl (fun _ => qe) fun al => absurd al na
    walk_at "s"; walk_at "ks"
    refine k_callX ?_
    walk_at "ks"
    exact k_way hS hT hl na qe
theorem ok_Lpurse {C_PurseError C_NoGift C_Unlike C_Gap C_NoText : Addr} (T : TxtE K mg C_PurseError C_NoGift C_Unlike C_Gap C_NoText) {f : Addr} {fd : FuncData} (F : Fun K "_law_purse" "_law_purse" s_Lpurse f fd) (B : Bl mg) : FnOk P w K mg base CX0 1 f fd ["_law_cell", "_law_small"] (spLpurse K) := by
  refine F.ok sc_Lpurse (fun vs H Q E h => ?_) (fun cdv A outer s H vs Q E hr h => ?_)
  · obtain ⟨c, b, rfl, _⟩ := h
    rfl
  · obtain ⟨c, b, rfl, q⟩ := h
    refine ⟨_, (pss_cons (ps_if (pt_val (pv 1)) (pss_one (ps_ret (pe_op op_sub (pe_op op_mod (pv 0) pe_int) pe_int))) pss_nil)
      (pss_one (ps_ret (pe_op op_sub (pe_op op_mod (pv 0) (pe_op op_add (pe_op op_mulX pe_int (pe_op op_pow pe_int pe_int)) pe_int)) (pe_op op_pow pe_int pe_int))))), Go.here ?_⟩
    walk_at "s"; walk_at "ks"
    refine ⟨fun hb => ?_, fun hb => ?_⟩
    · walk_at "s"; walk_at "ks"
      exact q _
    · walk_at "s"; walk_at "ks"
      exact q _
theorem ok_Llevel {C_PurseError C_NoGift C_Unlike C_Gap C_NoText : Addr} (T : TxtE K mg C_PurseError C_NoGift C_Unlike C_Gap C_NoText) {f : Addr} {fd : FuncData} (F : Fun K "_law_level" "_law_level" s_Llevel f fd) (B : Bl mg) : FnOk P w K mg base CX0 1 f fd ["_law_row"] (spLlevel K) := by
  refine F.ok sc_Llevel (fun vs H Q E h => ?_) (fun cdv A outer s H vs Q E hr h => ?_)
  · obtain ⟨a, ns, rfl, _⟩ := h
    rfl
  · obtain ⟨a, ns, rfl, hS, h0, hl, q⟩ := h
    refine ⟨_, (pss_cons (ps_set (i := 1) sc_Llevel.nd rfl (Or.inr rfl) (pe_callB (bLen (K := K)) (by rfl) B.len_ boot_len (pa_cons (pv 0) pa_nil)))
      (pss_cons (ps_set (i := 2) sc_Llevel.nd rfl (Or.inr rfl) (pe_callB (bSum (K := K) rfl) (by rfl) B.sum_ boot_sum (pa_cons (pv 0) pa_nil)))
      (pss_one (ps_ret (pe_lc (own := [("_law_k", 3)]) (g := gName 3) (tt := tYes) rfl sc_Llevel.nd (pi_range1 (by rfl) B.range_ (pa_cons (pv 1) pa_nil)) (blkOk_by (own := [("_law_k", 3)]) (N := n_Llevel) (sc := defScope s_Llevel) (by decide +kernel)) (fun _ _ _ _ _ => pg_name (i := 3) sc_Llevel.nd rfl (Or.inl rfl)) (fun _ _ _ _ _ => pts_nil) (fun _ _ _ _ _ => (pe_op op_add (pe_op op_fdiv (pv 2) (pv 1)) (pe_callTy call_int1 (by rfl) B.int_ boot_int (pa_cons (pe_cmpR op_lt (pv 3) (pe_op op_mod (pv 2) (pv 1)) (nomark _)) pa_nil))))))))), Go.here ?_⟩
    walk_at "s"; walk_at "ks"
    refine c_len hS ?_
    rw [List.length_map]
    walk_at "s"; walk_at "ks"
    refine c_sum hS ?_
    walk_at "s"
    refine k_lcR (n := (ns.length : Int)) (fun i => .int (Pm.lv ns.length ns.sum i)) ?_
    walk_at "ks"
    refine ⟨rfl, by omega, by omega, fun x => rfl, fun i Hz hi ez => ?_, fun d nd => ?_⟩
    · walk_at "ks"
      refine c_intB ?_
      walk_at "ks"
      refine ⟨?_, rfl⟩
      unfold Pm.lv
      by_cases c : (i : Int) < ns.sum % (ns.length : Int)
      · rw [decide_eq_true c, if_pos c]
        rfl
      · rw [decide_eq_false c, if_neg c]
        rfl
    · have e5 : List.map (fun i => V.int (Pm.lv ns.length ns.sum i)) (List.range ((ns.length : Int)).toNat) = (Pm.level ns.length ns.sum).map V.int := by
        rw [Int.toNat_natCast]
        unfold Pm.level
        rw [List.map_map]
        rfl
      rw [e5]
      exact q d nd
theorem ok_Lpair_good {C_PurseError C_NoGift C_Unlike C_Gap C_NoText : Addr} (T : TxtE K mg C_PurseError C_NoGift C_Unlike C_Gap C_NoText) {f : Addr} {fd : FuncData} (F : Fun K "_law_pair_good" "_law_pair_good" s_Lpair_good f fd) (B : Bl mg) {f_Ldues : Addr} {fd_Ldues : FuncData} (c_Ldues : Cl P w K mg base CX0 1 "_law_dues" f_Ldues fd_Ldues ["_law_one", "_law_other"] (spLdues K)) {f_Lgap : Addr} {fd_Lgap : FuncData} (c_Lgap : Cl P w K mg base CX0 1 "_law_gap" f_Lgap fd_Lgap ["_law_one", "_law_other"] (spLgap K)) {f_Lwhole : Addr} {fd_Lwhole : FuncData} (c_Lwhole : Cl P w K mg base CX0 1 "_law_whole" f_Lwhole fd_Lwhole ["_law_found"] (spLwhole K)) {f_dues : Addr} {fd_dues : FuncData} (c_dues : Cl P w K mg base (L2.CX P w) 2 "dues" f_dues fd_dues ["one", "other"] (spdues K C_Unlike)) {f_gap : Addr} {fd_gap : FuncData} (c_gap : Cl P w K mg base (L2.CX P w) 2 "gap" f_gap fd_gap ["one", "other"] (spgap K C_Unlike)) : FnOk P w K mg base CX0 3 f fd ["_law_one", "_law_other"] (spLpair_good K) := by
  refine F.ok sc_Lpair_good (fun vs H Q E h => ?_) (fun cdv A outer s H vs Q E hr h => ?_)
  · obtain ⟨a, b, ns, ms, rfl, _⟩ := h
    rfl
  · obtain ⟨a, b, ns, ms, rfl, hS, hT, hl, al, q⟩ := h
    refine ⟨_, (pss_cons (ps_set (i := 2) sc_Lpair_good.nd rfl (Or.inl rfl) (pe_lst (pa_cons (pe_callTy (bList (K := K)) (by rfl) B.list_ boot_list (pa_cons (pv 0) pa_nil)) (pa_cons (pe_callTy (bList (K := K)) (by rfl) B.list_ boot_list (pa_cons (pv 1) pa_nil)) pa_nil))))
      (pss_cons (ps_set (i := 3) sc_Lpair_good.nd rfl (Or.inl rfl) (pe_call c_Lgap.ok (hr.mono (by decide)) (by rfl) c_Lgap.gl c_Lgap.kp c_Lgap.bd .nil pass0 (pa_cons (pv 0) (pa_cons (pv 1) pa_nil))))
      (pss_cons (ps_set (i := 4) sc_Lpair_good.nd rfl (Or.inl rfl) (pe_call c_gap.ok (hr.mono (by decide)) (by rfl) c_gap.gl c_gap.kp c_gap.bd .nil passL (pa_cons (pe_ix (ixl (K := K)) (pv 2) pe_int (fun _ _ => rfl)) (pa_cons (pe_ix (ixl (K := K)) (pv 2) pe_int (fun _ _ => rfl)) pa_nil))))
      (Evl.pss_cut (ps_if (PW.pt (pw_and (pt_cmpR op_isN (pv 3) pe_non (nomark _)) (pw_and1 (pt_cmpR op_notN (pv 4) pe_non (nomark _))))) (pss_one (ps_ret pe_bl)) pss_nil)
      (Evl.pss_cut (ps_if (PW.pt (pw_and (pt_cmpR op_notN (pv 3) pe_non (nomark _)) (pw_and1 (PW.pt (pw_or (pt_not (pt_val (pe_call c_Lwhole.ok (hr.mono (by decide)) (by rfl) c_Lwhole.gl c_Lwhole.kp c_Lwhole.bd .nil pass0 (pa_cons (pv 4) pa_nil)))) (pw_or1 (pt_cmpR op_ne (pv 4) (pv 3) (nomark _)))))))) (pss_one (ps_ret pe_bl)) pss_nil)
      (pss_cons (ps_set (i := 5) sc_Lpair_good.nd rfl (Or.inl rfl) (pe_call c_dues.ok (hr.mono (by decide)) (by rfl) c_dues.gl c_dues.kp c_dues.bd .nil passL (pa_cons (pe_ix (ixl (K := K)) (pv 2) pe_int (fun _ _ => rfl)) (pa_cons (pe_ix (ixl (K := K)) (pv 2) pe_int (fun _ _ => rfl)) pa_nil))))
      (pss_one (ps_ret (pe_and (pe_call c_Lwhole.ok (hr.mono (by decide)) (by rfl) c_Lwhole.gl c_Lwhole.kp c_Lwhole.bd .nil pass0 (pa_cons (pv 5) pa_nil)) (pe_and (pe_cmpR op_eq (pv 5) (pe_call c_Ldues.ok (hr.mono (by decide)) (by rfl) c_Ldues.gl c_Ldues.kp c_Ldues.bd .nil pass0 (pa_cons (pv 0) (pa_cons (pv 1) pa_nil))) (nomark _)) (pe_one (pe_cmpR (oEqD (K := K) hr.units) (pv 2) (pe_lst (pa_cons (pv 0) (pa_cons (pv 1) pa_nil))) (nomark _))))))))))))), Go.here ?_⟩
    walk_at "s"; walk_at "ks"
    refine c_list hS fun x nx => ?_
    have e1 : Ex H (upd H x (.lst (ns.map V.int))) := Ex.new nx
    have x1 : (upd H x (.lst (ns.map V.int))) x = some (.lst (ns.map V.int)) := upd_same
    generalize upd H x (.lst (ns.map V.int)) = H1 at e1 x1
    walk_at "ks"
    refine c_list (ex_l e1 hT) fun y ny => ?_
    have e2 : Ex H (upd H1 y (.lst (ms.map V.int))) := e1.trans (Ex.new ny)
    have x2 := at_up (o := .lst (ms.map V.int)) x1 ny
    have y2 : (upd H1 y (.lst (ms.map V.int))) y = some (.lst (ms.map V.int)) := upd_same
    generalize upd H1 y (.lst (ms.map V.int)) = H2 at e2 x2 y2
    walk_at "ks"
    refine ⟨(by show 2 ≤ 100000; decide), fun h nh => ?_⟩
    have e3 : Ex H (upd H2 h (.lst [.ref x, .ref y])) := e2.trans (Ex.new nh)
    have x3 := at_up (o := .lst [.ref x, .ref y]) x2 nh
    have y3 := at_up (o := .lst [.ref x, .ref y]) y2 nh
    have h3 : (upd H2 h (.lst [.ref x, .ref y])) h = some (.lst [.ref x, .ref y]) := upd_same
    generalize upd H2 h (.lst [.ref x, .ref y]) = H3 at e3 x3 y3 h3
    walk_at "s"; walk_at "ks"
    refine k_Lgap (ex_l e3 hS) (ex_l e3 hT) hl al.1 fun o ho => ?_
    walk_at "s"; walk_at "ks"
    refine r_ixL (v := .ref x) (sq_of h3) rfl ?_
    walk_at "ks"
    refine r_ixL (v := .ref y) (sq_of h3) rfl ?_
    walk_at "ks"
    refine fun E => k_gap (sq_of x3) (sq_of y3) hl (fun n => absurd al n) fun _ o2 ho2 => ?_
    obtain rfl := ho.uniq ho2
    refine gs_mid (fun σ' H' => σ' = [some (.ref a), some (.ref b), some (.ref h), some (Pw.oV o), some (Pw.oV o), none] ∧ H3 = H') ?_ ?_
    · cases o with
      | none =>
        dsimp only [Pw.oV]
        walk_at "s"; walk_at "ks"
        refine r_isN ?_
        rw [decide_eq_true rfl]
        walk_at "ks"
        refine ⟨fun _ => ?_, fun hb => Bool.noConfusion hb⟩
        walk_at "ks"
        refine r_notN ?_
        rw [decide_eq_true rfl]
        walk_at "ks"
        refine ⟨fun hb => Bool.noConfusion hb, fun _ => ?_⟩
        exact g1_next fun H4 e4 => ⟨_, e4, rfl, rfl⟩
      | some k =>
        dsimp only [Pw.oV]
        walk_at "s"; walk_at "ks"
        refine r_isN ?_
        rw [decide_eq_false (fun h => by cases h)]
        walk_at "ks"
        refine ⟨fun hb => Bool.noConfusion hb, fun _ => ⟨fun hb => Bool.noConfusion hb, fun _ => ?_⟩⟩
        exact g1_next fun H4 e4 => ⟨_, e4, rfl, rfl⟩
    rintro σ' H' ⟨rfl, rfl⟩
    refine gs_mid (fun σ' H' => σ' = [some (.ref a), some (.ref b), some (.ref h), some (Pw.oV o), some (Pw.oV o), none] ∧ H3 = H') ?_ ?_
    · cases o with
      | none =>
        dsimp only [Pw.oV]
        walk_at "s"; walk_at "ks"
        refine r_notN ?_
        rw [decide_eq_true rfl]
        walk_at "ks"
        refine ⟨fun hb => Bool.noConfusion hb, fun _ => ⟨fun hb => Bool.noConfusion hb, fun _ => ?_⟩⟩
        exact g1_next fun H4 e4 => ⟨_, e4, rfl, rfl⟩
      | some k =>
        dsimp only [Pw.oV]
        walk_at "s"; walk_at "ks"
        refine r_notN ?_
        rw [decide_eq_false (fun h => by cases h)]
        walk_at "ks"
        refine ⟨fun _ => ?_, fun hb => Bool.noConfusion hb⟩
        walk_at "ks"
        refine k_Lwhole ?_
        walk_at "ks"
        refine ⟨fun hb => Bool.noConfusion hb, fun _ => ?_⟩
        walk_at "ks"
        rw [decide_eq_true rfl]
        refine ⟨fun hb => Bool.noConfusion hb, fun _ => ?_⟩
        exact g1_next fun H4 e4 => ⟨_, e4, rfl, rfl⟩
    rintro σ' H' ⟨rfl, rfl⟩
    walk_at "s"; walk_at "ks"
    refine r_ixL (v := .ref x) (sq_of h3) rfl ?_
    walk_at "ks"
    refine r_ixL (v := .ref y) (sq_of h3) rfl ?_
    walk_at "ks"
    refine fun E => k_dues (sq_of x3) (sq_of y3) hl (fun n => absurd al n) fun _ => ?_
    walk_at "s"; walk_at "ks"
    refine k_Lwhole ?_
    walk_at "ks"
    refine ⟨fun _ => ?_, fun hb => Bool.noConfusion hb⟩
    walk_at "ks"
    refine k_Ldues (ex_l e3 hS) (ex_l e3 hT) hl al.1 ?_
    walk_at "ks"
    rw [decide_eq_true rfl]
    refine ⟨fun _ => ?_, fun hb => Bool.noConfusion hb⟩
    walk_at "ks"
    refine ⟨(by show 2 ≤ 100000; decide), fun d nd => ?_⟩
    have e4 : Ex H3 (upd H3 d (.lst [.ref a, .ref b])) := Ex.new nd
    have e5 := e3.trans e4
    exact r_eqS (dp_two (sq_of (e4 _ _ h3)) (sq_of (e4 _ _ x3)) (sq_of (e4 _ _ y3))) (dp_two (sq_of upd_same) (ex_l e5 hS) (ex_l e5 hT)) (sh_two ns ms) (q.up e5)
theorem ok_Lpair {C_PurseError C_NoGift C_Unlike C_Gap C_NoText : Addr} (T : TxtE K mg C_PurseError C_NoGift C_Unlike C_Gap C_NoText) {f : Addr} {fd : FuncData} (F : Fun K "_law_pair" "_law_pair" s_Lpair f fd) (B : Bl mg) {f_Lcell_at : Addr} {fd_Lcell_at : FuncData} (c_Lcell_at : Cl P w K mg base CX0 1 "_law_cell_at" f_Lcell_at fd_Lcell_at ["_law_script", "_law_k"] (spLcell_at K)) {f_Llevel : Addr} {fd_Llevel : FuncData} (c_Llevel : Cl P w K mg base CX0 1 "_law_level" f_Llevel fd_Llevel ["_law_row"] (spLlevel K)) {f_Lpurse : Addr} {fd_Lpurse : FuncData} (c_Lpurse : Cl P w K mg base CX0 1 "_law_purse" f_Lpurse fd_Lpurse ["_law_cell", "_law_small"] (spLpurse K)) : FnOk P w K mg base CX0 2 f fd ["_law_script"] (spLpair K) := by
  refine F.ok sc_Lpair (fun vs H Q E h => ?_) (fun cdv A outer s H vs Q E hr h => ?_)
  · obtain ⟨a, ss, rfl, _⟩ := h
    rfl
  · obtain ⟨a, ss, rfl, hS, hl, q⟩ := h
    refine ⟨_, (pss_cons (ps_set (i := 1) sc_Lpair.nd rfl (Or.inr rfl) (pe_cmpR op_eq (pe_op op_mod (pe_call c_Lcell_at.ok (hr.mono (by decide)) (by rfl) c_Lcell_at.gl c_Lcell_at.kp c_Lcell_at.bd .nil pass0 (pa_cons (pv 0) (pa_cons pe_int pa_nil))) pe_int) pe_int (nomark _)))
      (pss_cons (ps_set (i := 2) sc_Lpair.nd rfl (Or.inr rfl) (pe_slice (sll (K := K)) (pv 0) (po_some pe_int) (po_some pe_int)))
      (Evl.pss_cut (ps_if (pt_cmpR op_eq (pe_op op_mod (pe_call c_Lcell_at.ok (hr.mono (by decide)) (by rfl) c_Lcell_at.gl c_Lcell_at.kp c_Lcell_at.bd .nil pass0 (pa_cons (pv 0) (pa_cons pe_int pa_nil))) pe_int) pe_int (nomark _)) (pss_one (ps_set (i := 2) sc_Lpair.nd rfl (Or.inr rfl) (pe_slice (sll (K := K)) (pv 0) (po_some pe_int) (po_some (pe_op op_add pe_int (pe_op op_mod (pe_op op_fdiv (pe_call c_Lcell_at.ok (hr.mono (by decide)) (by rfl) c_Lcell_at.gl c_Lcell_at.kp c_Lcell_at.bd .nil pass0 (pa_cons (pv 0) (pa_cons pe_int pa_nil))) pe_int) pe_int)))))) pss_nil)
      (pss_cons (ps_if (pt_cmpR op_eq (pe_callB (bLen (K := K)) (by rfl) B.len_ boot_len (pa_cons (pv 2) pa_nil)) pe_int (nomark _)) (pss_one (ps_ret (pe_tup (pa_cons (pe_lst pa_nil) (pa_cons (pe_lst pa_nil) pa_nil))))) pss_nil)
      (pss_cons (ps_setLc (i := 3) (own := [("_law_k", 7)]) (g := gName 7) (tt := tYes) rfl sc_Lpair.nd rfl rfl (sw_true rfl rfl rfl (by decide +kernel)) (pi_range1 (by rfl) B.range_ (pa_cons (pe_op op_fdiv (pe_op op_add (pe_callB (bLen (K := K)) (by rfl) B.len_ boot_len (pa_cons (pv 2) pa_nil)) pe_int) pe_int) pa_nil)) (blkOk_by (own := [("_law_k", 7)]) (N := n_Lpair) (sc := defScope s_Lpair) (by decide +kernel)) (fun _ _ _ _ _ => pg_name (i := 7) sc_Lpair.nd rfl (Or.inl rfl)) (fun _ _ _ _ _ => pts_nil) (fun _ _ _ _ _ => (pe_call c_Lpurse.ok (hr.mono (by decide)) (by rfl) c_Lpurse.gl c_Lpurse.kp c_Lpurse.bd .nil pass0 (pa_cons (pe_ix (ixl (K := K)) (pv 2) (pe_op op_mulX pe_int (pv 7)) (fun _ _ => rfl)) (pa_cons (pv 1) pa_nil)))))
      (pss_cons (ps_setLc (i := 4) (own := [("_law_k", 7)]) (g := gName 7) (tt := tYes) rfl sc_Lpair.nd rfl rfl (sw_true rfl rfl rfl (by decide +kernel)) (pi_range1 (by rfl) B.range_ (pa_cons (pe_op op_fdiv (pe_callB (bLen (K := K)) (by rfl) B.len_ boot_len (pa_cons (pv 2) pa_nil)) pe_int) pa_nil)) (blkOk_by (own := [("_law_k", 7)]) (N := n_Lpair) (sc := defScope s_Lpair) (by decide +kernel)) (fun _ _ _ _ _ => pg_name (i := 7) sc_Lpair.nd rfl (Or.inl rfl)) (fun _ _ _ _ _ => pts_nil) (fun _ _ _ _ _ => (pe_call c_Lpurse.ok (hr.mono (by decide)) (by rfl) c_Lpurse.gl c_Lpurse.kp c_Lpurse.bd .nil pass0 (pa_cons (pe_ix (ixl (K := K)) (pv 2) (pe_op op_add (pe_op op_mulX pe_int (pv 7)) pe_int) (fun _ _ => rfl)) (pa_cons (pv 1) pa_nil)))))
      (Evl.pss_cut (ps_if (pt_cmpR op_eq (pe_callB (bLen (K := K)) (by rfl) B.len_ boot_len (pa_cons (pv 3) pa_nil)) (pe_callB (bLen (K := K)) (by rfl) B.len_ boot_len (pa_cons (pv 4) pa_nil)) (nomark _)) (pss_one (ps_expr (peBm (K := K) PySem.F.plainAttrs_list PySem.F.slot_list_append PySem.F.type_list_append mt_append (pv 3) (pa_cons (pe_call c_Lpurse.ok (hr.mono (by decide)) (by rfl) c_Lpurse.gl c_Lpurse.kp c_Lpurse.bd .nil pass0 (pa_cons (pe_call c_Lcell_at.ok (hr.mono (by decide)) (by rfl) c_Lcell_at.gl c_Lcell_at.kp c_Lcell_at.bd .nil pass0 (pa_cons (pv 0) (pa_cons pe_int pa_nil))) (pa_cons (pv 1) pa_nil))) pa_nil)))) pss_nil)
      (pss_cons (ps_set (i := 5) sc_Lpair.nd rfl (Or.inl rfl) (pe_op op_sub (pe_callB (bSum (K := K) rfl) (by rfl) B.sum_ boot_sum (pa_cons (pv 3) pa_nil)) (pe_callB (bSum (K := K) rfl) (by rfl) B.sum_ boot_sum (pa_cons (pv 4) pa_nil))))
      (pss_cons (ps_expr (peBm (K := K) PySem.F.plainAttrs_list PySem.F.slot_list_insert PySem.F.type_list_insert mt_insert (pv 4) (pa_cons (pe_op op_mod (pe_op op_fdiv (pe_call c_Lcell_at.ok (hr.mono (by decide)) (by rfl) c_Lcell_at.gl c_Lcell_at.kp c_Lcell_at.bd .nil pass0 (pa_cons (pv 0) (pa_cons pe_int pa_nil))) pe_int) (pe_op op_add (pe_callB (bLen (K := K)) (by rfl) B.len_ boot_len (pa_cons (pv 4) pa_nil)) pe_int)) (pa_cons (pv 5) pa_nil))))
      (Evl.pss_cut (ps_if (pt_cmpR op_eq (pe_op op_mod (pe_call c_Lcell_at.ok (hr.mono (by decide)) (by rfl) c_Lcell_at.gl c_Lcell_at.kp c_Lcell_at.bd .nil pass0 (pa_cons (pv 0) (pa_cons pe_int pa_nil))) pe_int) pe_int (nomark _)) (pss_cons (ps_set (i := 6) sc_Lpair.nd rfl (Or.inl rfl) (pe_op op_mod (pe_op op_fdiv (pe_call c_Lcell_at.ok (hr.mono (by decide)) (by rfl) c_Lcell_at.gl c_Lcell_at.kp c_Lcell_at.bd .nil pass0 (pa_cons (pv 0) (pa_cons pe_int pa_nil))) pe_int) (pe_callB (bLen (K := K)) (by rfl) B.len_ boot_len (pa_cons (pv 3) pa_nil))))
      (pss_one (ps_set (i := 4) sc_Lpair.nd rfl (Or.inl rfl) (pe_op op_cat (pe_slice (sll (K := K)) (pv 3) (po_some (pv 6)) po_none) (pe_slice (sll (K := K)) (pv 3) po_none (po_some (pv 6))))))) pss_nil)
      (Evl.pss_cut (ps_if (pt_cmpR op_eq (pe_op op_mod (pe_call c_Lcell_at.ok (hr.mono (by decide)) (by rfl) c_Lcell_at.gl c_Lcell_at.kp c_Lcell_at.bd .nil pass0 (pa_cons (pv 0) (pa_cons pe_int pa_nil))) pe_int) pe_int (nomark _)) (pss_one (ps_set (i := 4) sc_Lpair.nd rfl (Or.inl rfl) (pe_call c_Llevel.ok (hr.mono (by decide)) (by rfl) c_Llevel.gl c_Llevel.kp c_Llevel.bd .nil pass0 (pa_cons (pv 3) pa_nil)))) pss_nil)
      (pss_cons (ps_if (pt_cmpR op_eq (pe_op op_mod (pe_op op_fdiv (pe_call c_Lcell_at.ok (hr.mono (by decide)) (by rfl) c_Lcell_at.gl c_Lcell_at.kp c_Lcell_at.bd .nil pass0 (pa_cons (pv 0) (pa_cons pe_int pa_nil))) pe_int) pe_int) pe_int (nomark _)) (pss_one (ps_ret (pe_tup (pa_cons (pe_op op_cat (pv 3) (pv 3)) (pa_cons (pe_op op_cat (pv 4) (pv 4)) pa_nil))))) pss_nil)
      (pss_one (ps_ret (pe_tup (pa_cons (pv 3) (pa_cons (pv 4) pa_nil))))))))))))))))), Go.here ?_⟩
    walk_at "s"; walk_at "ks"
    refine k_Lcell_at hS (by decide) ?_
    walk_at "ks"
    generalize decide (cellAt ss 0 % 3 = 1) = sm
    walk_at "s"; walk_at "ks"
    refine r_slL hS fun c nc => ?_
    obtain ⟨cs, ec, hcs1, hcs2⟩ := cut_ints ss (some 4) (some 63)
    rw [ec]
    have e1 : Ex H (upd H c (.lst (cs.map V.int))) := Ex.new nc
    have c1 : (upd H c (.lst (cs.map V.int))) c = some (.lst (cs.map V.int)) := upd_same
    generalize upd H c (.lst (cs.map V.int)) = H1 at e1 c1
    refine gs_mid (fun σ' H' => ∃ (c : Addr) (cs : List Int), σ' = [some (.ref a), some (.bl sm), some (.ref c), none, none, none, none, none] ∧ Ex H H' ∧ H' c = some (.lst (cs.map V.int)) ∧ cs.length ≤ 63) ?_ ?_
    · walk_at "s"; walk_at "ks"
      refine k_Lcell_at (ex_l e1 hS) (by decide) ?_
      walk_at "ks"
      refine ⟨fun hb => ?_, fun hb => ?_⟩
      · walk_at "s"; walk_at "ks"
        refine k_Lcell_at (ex_l e1 hS) (by decide) ?_
        walk_at "ks"
        refine r_slL (ex_l e1 hS) fun c nc => ?_
        obtain ⟨cs, ec, hcs1, hcs2⟩ := cut_ints ss (some 4) (some (4 + cellAt ss 1 / 2 % 13))
        rw [ec]
        exact fun H2 e2 => ⟨_, e2, c, cs, rfl, e1.trans (Ex.new nc), upd_same, by omega⟩
      · exact g1_next fun H2 e2 => ⟨_, e2, c, cs, rfl, e1, c1, by omega⟩
    clear hcs1 hcs2 ec c1 e1 nc
    clear cs c H1
    rintro σ' H1 ⟨c, cs, rfl, e1, c1, hcl⟩
    walk_at "s"; walk_at "ks"
    refine c_len (sq_of c1) ?_
    rw [List.length_map]
    walk_at "ks"
    refine ⟨fun hb => ?_, fun hb => ?_⟩
    · walk_at "s"; walk_at "ks"
      refine ⟨(by show 0 ≤ 100000; decide), fun x nx => ?_⟩
      have e2 := e1.trans (Ex.new (o := .lst []) nx)
      have x2 : (upd H1 x (.lst [])) x = some (.lst []) := upd_same
      walk_at "ks"
      refine ⟨(by show 0 ≤ 100000; decide), fun y ny => ?_⟩
      have e3 := e2.trans (Ex.new (o := .lst []) ny)
      have x3 := at_up (o := .lst []) x2 ny
      have y3 : (upd (upd H1 x (.lst [])) y (.lst [])) y = some (.lst []) := upd_same
      walk_at "ks"
      refine ⟨(by show 2 ≤ 100000; decide), fun p np => ?_⟩
      exact q p x y [] [] _ (e3.trans (Ex.new np)) (st_of upd_same) (sq_of (at_up x3 np)) (sq_of (at_up y3 np)) ⟨rfl, rfl⟩ (by decide)
    have hn := of_decide_eq_false hb
    -- the first row
    walk_at "s"
    refine k_lcWR ?_
    walk_at "ks"
    refine c_len (sq_of c1) ?_
    rw [List.length_map]
    walk_at "ks"
    refine ⟨((cs.length : Int) + 1) / 2, fun D i acc Hy => ∃ zs : List Int, acc = zs.map V.int ∧ zs.length = i ∧ upd H1 D (.lst acc) = Hy, rfl, by omega, by omega, fun D nD => ⟨[], rfl, rfl, rfl⟩, ?_, ?_, ?_⟩
    · rintro D i acc Hy nD ⟨zs, rfl, hz, rfl⟩
      exact ⟨by rw [List.length_map, hz]; exact Nat.le_refl _, upd_same⟩
    · rintro D i acc Hy nD hi ⟨zs, rfl, hz, rfl⟩
      have c2 := at_up (o := .lst (zs.map V.int)) c1 nD
      have bi : Bd 10 (i : Int) := by unfold Bd; omega
      refine gk_name ⟨rfl, kt_yes ⟨fun _ => ?_, fun hb => Bool.noConfusion hb⟩⟩
      walk_at "ks"
      refine r_ixL (sq_of c2) (at_getD (by omega) (by omega)) ?_
      walk_at "ks"
      refine k_Lpurse fun z => ?_
      exact ⟨upd_same, zs ++ [z], by rw [List.map_append]; rfl, by rw [List.length_append, hz]; rfl, by rw [upd_upd]⟩
    rintro p acc Hy np ⟨ns, rfl, hns, rfl⟩
    have e2 := e1.trans (Ex.new (o := .lst (ns.map V.int)) np)
    have c2 := at_up (o := .lst (ns.map V.int)) c1 np
    have p2 : (upd H1 p (.lst (ns.map V.int))) p = some (.lst (ns.map V.int)) := upd_same
    generalize upd H1 p (.lst (ns.map V.int)) = H2 at e2 c2 p2
    -- the second row
    walk_at "s"
    refine k_lcWR ?_
    walk_at "ks"
    refine c_len (sq_of c2) ?_
    rw [List.length_map]
    walk_at "ks"
    refine ⟨(cs.length : Int) / 2, fun D i acc Hy => ∃ zs : List Int, acc = zs.map V.int ∧ zs.length = i ∧ upd H2 D (.lst acc) = Hy, rfl, by omega, by omega, fun D nD => ⟨[], rfl, rfl, rfl⟩, ?_, ?_, ?_⟩
    · rintro D i acc Hy nD ⟨zs, rfl, hz, rfl⟩
      exact ⟨by rw [List.length_map, hz]; exact Nat.le_refl _, upd_same⟩
    · rintro D i acc Hy nD hi ⟨zs, rfl, hz, rfl⟩
      have c3 := at_up (o := .lst (zs.map V.int)) c2 nD
      have bi : Bd 10 (i : Int) := by unfold Bd; omega
      refine gk_name ⟨rfl, kt_yes ⟨fun _ => ?_, fun hb => Bool.noConfusion hb⟩⟩
      walk_at "ks"
      refine r_ixL (sq_of c3) (at_getD (by omega) (by omega)) ?_
      walk_at "ks"
      refine k_Lpurse fun z => ?_
      exact ⟨upd_same, zs ++ [z], by rw [List.map_append]; rfl, by rw [List.length_append, hz]; rfl, by rw [upd_upd]⟩
    rintro r acc Hy nr ⟨ms, rfl, hms, rfl⟩
    have e3 := e2.trans (Ex.new (o := .lst (ms.map V.int)) nr)
    have p3 := at_up (o := .lst (ms.map V.int)) p2 nr
    have r3 : (upd H2 r (.lst (ms.map V.int))) r = some (.lst (ms.map V.int)) := upd_same
    have hpr : p ≠ r := ne_of_none p2 nr
    have nr0 : H r = none := fresh_back e2 nr
    have np0 : H p = none := fresh_back e1 np
    generalize upd H2 r (.lst (ms.map V.int)) = H3 at e3 p3 r3
    refine gs_mid (fun σ' H' => ∃ ns : List Int, σ' = [some (.ref a), some (.bl sm), some (.ref c), some (.ref p), some (.ref r), none, none, none] ∧ Ex H H' ∧ H' p = some (.lst (ns.map V.int)) ∧ H' r = some (.lst (ms.map V.int)) ∧ ns.length = ms.length + 1) ?_ ?_
    · walk_at "s"; walk_at "ks"
      refine c_len (sq_of p3) ?_
      rw [List.length_map]
      walk_at "ks"
      refine c_len (sq_of r3) ?_
      rw [List.length_map]
      walk_at "ks"
      refine ⟨fun hb => ?_, fun hb => ?_⟩
      · have h1 := of_decide_eq_true hb
        walk_at "s"; walk_at "ks"
        refine ⟨tyl (sq_of p3), ?_⟩
        walk_at "ks"
        refine k_Lcell_at (ex_l e3 hS) (by decide) ?_
        walk_at "ks"
        refine k_Lpurse fun z => ?_
        walk_at "ks"
        refine m_append p3 (by rw [List.length_map]; omega) ?_
        refine fun H4 e4 => ⟨_, e4, ns ++ [z], rfl, Ex.mut e3 np0, by rw [upd_same, List.map_append]; rfl, by rw [upd_ne hpr.symm]; exact r3, ?_⟩
        rw [List.length_append]
        show ns.length + 1 = _
        omega
      · have h1 := of_decide_eq_false hb
        exact g1_next fun H4 e4 => ⟨_, e4, ns, rfl, e3, p3, r3, by omega⟩
    have hml : ms.length ≤ 63 := by omega
    clear hns hms p3 r3 e3 e2 p2 c2 e1 c1 np nr
    clear ns H3 H2
    rintro σ' H3 ⟨ns, rfl, e3, p3, r3, hnm⟩
    walk_at "s"; walk_at "ks"
    refine c_sum (sq_of p3) ?_
    walk_at "ks"
    refine c_sum (sq_of r3) ?_
    walk_at "ks"
    walk_at "s"; walk_at "ks"
    refine ⟨tyl (sq_of r3), ?_⟩
    walk_at "ks"
    refine k_Lcell_at (ex_l e3 hS) (by decide) ?_
    walk_at "ks"
    refine c_len (sq_of r3) ?_
    rw [List.length_map]
    walk_at "ks"
    have j0 := Int.emod_nonneg (cellAt ss 3 / 28) (show ((ms.length : Int) + 1) ≠ 0 by omega)
    have j1 := Int.emod_lt_of_pos (cellAt ss 3 / 28) (show 0 < ((ms.length : Int) + 1) by omega)
    obtain ⟨j, ej⟩ : ∃ j : Nat, cellAt ss 3 / 28 % ((ms.length : Int) + 1) = (j : Int) := ⟨_, (Int.toNat_of_nonneg j0).symm⟩
    rw [ej] at j1
    rw [ej]
    refine m_insert r3 (by rw [List.length_map]; omega) (by omega) ?_
    have eins : (ms.map V.int).take j ++ [V.int (ns.sum - ms.sum)] ++ (ms.map V.int).drop j = (ms.take j ++ [ns.sum - ms.sum] ++ ms.drop j).map V.int := by
      rw [List.map_append, List.map_append, List.map_take, List.map_drop]
      rfl
    rw [eins]
    have al : Pw.Alike ns (ms.take j ++ [ns.sum - ms.sum] ++ ms.drop j) := by
      refine ⟨?_, ?_⟩
      · rw [List.length_append, List.length_append, List.length_take, List.length_drop]
        show _ = _ + 1 + _
        omega
      · have h5 : ms.sum = (ms.take j).sum + (ms.drop j).sum := by
          conv => lhs; rw [← List.take_append_drop j ms]
          rw [List.sum_append]
        rw [List.sum_append, List.sum_append]
        simp only [List.sum_cons, List.sum_nil]
        omega
    have e4 := Ex.mut (o := .lst ((ms.take j ++ [ns.sum - ms.sum] ++ ms.drop j).map V.int)) e3 nr0
    have p4 : (upd H3 r (.lst ((ms.take j ++ [ns.sum - ms.sum] ++ ms.drop j).map V.int))) p = some (.lst (ns.map V.int)) := by
      rw [upd_ne hpr]
      exact p3
    have r4 : (upd H3 r (.lst ((ms.take j ++ [ns.sum - ms.sum] ++ ms.drop j).map V.int))) r = some (.lst ((ms.take j ++ [ns.sum - ms.sum] ++ ms.drop j).map V.int)) := upd_same
    generalize upd H3 r (.lst ((ms.take j ++ [ns.sum - ms.sum] ++ ms.drop j).map V.int)) = H4 at e4 p4 r4
    generalize hrest : ns.sum - ms.sum = rest at al r4
    generalize ms.take j ++ [rest] ++ ms.drop j = ks at al r4
    have hnl : ns.length ≤ 64 := by omega
    have n0 : 0 < ns.length := by omega
    refine gs_mid (fun σ' H' => ∃ (r : Addr) (ms : List Int) (v : Option V), σ' = [some (.ref a), some (.bl sm), some (.ref c), some (.ref p), some (.ref r), some (.int rest), v, none] ∧ Ex H H' ∧ H' p = some (.lst (ns.map V.int)) ∧ H' r = some (.lst (ms.map V.int)) ∧ Pw.Alike ns ms) ?_ ?_
    · walk_at "s"; walk_at "ks"
      refine k_Lcell_at (ex_l e4 hS) (by decide) ?_
      walk_at "ks"
      refine ⟨fun hb => ?_, fun hb => ?_⟩
      · walk_at "s"; walk_at "ks"
        refine k_Lcell_at (ex_l e4 hS) (by decide) ?_
        walk_at "ks"
        refine c_len (sq_of p4) ?_
        rw [List.length_map]
        walk_at "ks"
        have i0 := Int.emod_nonneg (cellAt ss 1 / 26) (show (ns.length : Int) ≠ 0 by omega)
        have i1 := Int.emod_lt_of_pos (cellAt ss 1 / 26) (show 0 < (ns.length : Int) by omega)
        obtain ⟨i, ei⟩ : ∃ j : Nat, cellAt ss 1 / 26 % (ns.length : Int) = (j : Int) := ⟨_, (Int.toNat_of_nonneg i0).symm⟩
        rw [ei] at i1
        rw [ei]
        walk_at "s"; walk_at "ks"
        refine r_slL (sq_of p4) fun x nx => ?_
        rw [cut_fromN (by rw [List.length_map]; omega)]
        have e5 := e4.trans (Ex.new (o := .lst ((ns.map V.int).drop i)) nx)
        have p5 := at_up (o := .lst ((ns.map V.int).drop i)) p4 nx
        have x5 : (upd H4 x (.lst ((ns.map V.int).drop i))) x = some (.lst ((ns.map V.int).drop i)) := upd_same
        generalize upd H4 x (.lst ((ns.map V.int).drop i)) = H5 at e5 p5 x5
        walk_at "ks"
        refine r_slL (sq_of p5) fun y ny => ?_
        rw [cut_to (by rw [List.length_map]; omega)]
        have e6 := e5.trans (Ex.new (o := .lst ((ns.map V.int).take i)) ny)
        have p6 := at_up (o := .lst ((ns.map V.int).take i)) p5 ny
        have x6 := at_up (o := .lst ((ns.map V.int).take i)) x5 ny
        have y6 : (upd H5 y (.lst ((ns.map V.int).take i))) y = some (.lst ((ns.map V.int).take i)) := upd_same
        generalize upd H5 y (.lst ((ns.map V.int).take i)) = H6 at e6 p6 x6 y6
        refine r_cat x6 y6 (by rw [List.length_drop, List.length_take, List.length_map]; omega) fun z nz => ?_
        rw [← List.map_drop, ← List.map_take, ← List.map_append]
        refine fun H7 e7 => ⟨_, e7, z, ns.drop i ++ ns.take i, _, rfl, e6.trans (Ex.new nz), at_up p6 nz, upd_same, Pw.Alike.of_perm ?_⟩
        have pp := List.perm_append_comm (l₁ := ns.take i) (l₂ := ns.drop i)
        rw [List.take_append_drop] at pp
        exact pp
      · exact g1_next fun H7 e7 => ⟨_, e7, r, ks, _, rfl, e4, p4, r4, al⟩
    clear al r4 p4 e4 p3 r3 e3 hnm hrest eins
    clear ks H4 H3
    rintro σ' H4 ⟨r, ks, far, rfl, e4, p4, r4, al⟩
    refine gs_mid (fun σ' H' => ∃ (r : Addr) (ms : List Int) (v : Option V), σ' = [some (.ref a), some (.bl sm), some (.ref c), some (.ref p), some (.ref r), some (.int rest), v, none] ∧ Ex H H' ∧ H' p = some (.lst (ns.map V.int)) ∧ H' r = some (.lst (ms.map V.int)) ∧ Pw.Alike ns ms) ?_ ?_
    · walk_at "s"; walk_at "ks"
      refine k_Lcell_at (ex_l e4 hS) (by decide) ?_
      walk_at "ks"
      refine ⟨fun hb => ?_, fun hb => ?_⟩
      · walk_at "s"; walk_at "ks"
        refine k_Llevel (sq_of p4) n0 (by omega) fun z nz => ?_
        exact fun H7 e7 => ⟨_, e7, z, _, _, rfl, e4.trans (Ex.new nz), at_up p4 nz, upd_same, (Pm.level_len _ _).symm, (Pm.level_sum n0).symm⟩
      · exact g1_next fun H7 e7 => ⟨_, e7, r, ks, _, rfl, e4, p4, r4, al⟩
    clear al r4 p4 e4
    clear ks H4 far
    rintro σ' H4 ⟨r, ks, far, rfl, e4, p4, r4, al⟩
    have al1 := al.1
    have al2 := al.2
    walk_at "s"; walk_at "ks"
    refine k_Lcell_at (ex_l e4 hS) (by decide) ?_
    walk_at "ks"
    refine ⟨fun hb => ?_, fun hb => ?_⟩
    · walk_at "s"; walk_at "ks"
      refine r_cat p4 p4 (by rw [List.length_map]; omega) fun x nx => ?_
      rw [← List.map_append]
      have e5 := e4.trans (Ex.new (o := .lst ((ns ++ ns).map V.int)) nx)
      have r5 := at_up (o := .lst ((ns ++ ns).map V.int)) r4 nx
      have x5 : (upd H4 x (.lst ((ns ++ ns).map V.int))) x = some (.lst ((ns ++ ns).map V.int)) := upd_same
      generalize upd H4 x (.lst ((ns ++ ns).map V.int)) = H5 at e5 r5 x5
      walk_at "ks"
      refine r_cat r5 r5 (by rw [List.length_map]; omega) fun y ny => ?_
      rw [← List.map_append]
      have e6 := e5.trans (Ex.new (o := .lst ((ks ++ ks).map V.int)) ny)
      have x6 := at_up (o := .lst ((ks ++ ks).map V.int)) x5 ny
      have y6 : (upd H5 y (.lst ((ks ++ ks).map V.int))) y = some (.lst ((ks ++ ks).map V.int)) := upd_same
      generalize upd H5 y (.lst ((ks ++ ks).map V.int)) = H6 at e6 x6 y6
      walk_at "ks"
      refine ⟨(by show 2 ≤ 100000; decide), fun p np => ?_⟩
      exact q p x y (ns ++ ns) (ks ++ ks) _ (e6.trans (Ex.new np)) (st_of upd_same) (sq_of (at_up x6 np)) (sq_of (at_up y6 np)) ⟨by rw [List.length_append, List.length_append]; omega, by rw [List.sum_append, List.sum_append]; omega⟩ (by rw [List.length_append]; omega)
    · walk_at "s"; walk_at "ks"
      refine ⟨(by show 2 ≤ 100000; decide), fun z nz => ?_⟩
      exact q z p r ns ks _ (e4.trans (Ex.new nz)) (st_of upd_same) (sq_of (at_up p4 nz)) (sq_of (at_up r4 nz)) al (by omega)
theorem ok_Lunlike {C_PurseError C_NoGift C_Unlike C_Gap C_NoText : Addr} (T : TxtE K mg C_PurseError C_NoGift C_Unlike C_Gap C_NoText) {f : Addr} {fd : FuncData} (F : Fun K "_law_unlike" "_law_unlike" s_Lunlike f fd) (B : Bl mg) {f_Lasked : Addr} {fd_Lasked : FuncData} (c_Lasked : Cl P w K mg base (L2.CX P w) 4 "_law_asked" f_Lasked fd_Lasked ["_law_which", "_law_one", "_law_other"] (spLasked K C_Unlike)) : FnOk P w K mg base CX0 5 f fd ["_law_which", "_law_one", "_law_other"] (spLunlike K) := by
  refine F.ok sc_Lunlike (fun vs H Q E h => ?_) (fun cdv A outer s H vs Q E hr h => ?_)
  · obtain ⟨i, a, b, ns, ms, rfl, _⟩ := h
    rfl
  · obtain ⟨i, a, b, ns, ms, rfl, hS, hT, hl, na, q⟩ := h
    refine ⟨_, (pss_cons (ps_set (i := 3) sc_Lunlike.nd rfl (Or.inl rfl) (pe_lst (pa_cons (pe_callTy (bList (K := K)) (by rfl) B.list_ boot_list (pa_cons (pv 1) pa_nil)) (pa_cons (pe_callTy (bList (K := K)) (by rfl) B.list_ boot_list (pa_cons (pv 2) pa_nil)) pa_nil))))
      (pss_cons (ps_set (i := 4) sc_Lunlike.nd rfl (Or.inl rfl) pe_int)
      (pss_cons (ps_tryMany (K := K) (Wout := fun _ _ _ _ => False) rfl rfl takes0
        (fun W pn xe tk po => (pss_one (ps_expr (pe_callS c_Lasked.ok (hr.mono (by decide)) (by rfl) c_Lasked.gl c_Lasked.kp c_Lasked.bd (fun σ => passAt tk σ) (by exact (pa_cons (pv 0) (pa_cons (pe_ix (ixl (K := K)) (pv 3) pe_int (fun _ _ => rfl)) (pa_cons (pe_ix (ixl (K := K)) (pv 3) pe_int (fun _ _ => rfl)) pa_nil))))))))
        (HdsOk.cons (c := .ref C_Gap) (ts := fun _ _ _ => tNever) ⟨rfl, by decide, Or.inl T.g_Gap⟩ (fun a oe cls d pn hz hf => pss_never) (HdsOk.cons (c := .ref C_NoGift) (ts := fun _ _ _ => tNever) ⟨rfl, by decide, Or.inl T.g_NoGift⟩ (fun a oe cls d pn hz hf => pss_never) (HdsOk.cons (c := .ref C_NoText) (ts := fun _ _ _ => tNever) ⟨rfl, by decide, Or.inl T.g_NoText⟩ (fun a oe cls d pn hz hf => pss_never) (HdsOk.cons (c := .ref C_Unlike) ⟨rfl, by decide, Or.inl T.g_Unlike⟩ (suiteD (C := C_Unlike) fun a oe pn hz hf => (pss_one (ps_set (i := 4) sc_Lunlike.nd rfl (Or.inl rfl) pe_int))) HdsOk.nil)))))
      (pss_cons (ps_set (i := 5) sc_Lunlike.nd rfl (Or.inl rfl) pe_bl)
      (pss_cons (ps_tryAs (K := K) (i := 6) (Wout := fun _ _ _ _ => False) rfl rfl sc_Lunlike.nd rfl rfl ⟨rfl, by decide, Or.inl T.g_PurseError⟩ takes0
        (fun W pn xe tk po => (pss_one (ps_expr (pe_callS c_Lasked.ok (hr.mono (by decide)) (by rfl) c_Lasked.gl c_Lasked.kp c_Lasked.bd (fun σ => passAt tk σ) (by exact (pa_cons (pv 0) (pa_cons (pe_ix (ixl (K := K)) (pv 3) pe_int (fun _ _ => rfl)) (pa_cons (pe_ix (ixl (K := K)) (pv 3) pe_int (fun _ _ => rfl)) pa_nil))))))))
        (suiteD (C := C_Unlike) fun a oe pn hz hf => (pss_one (ps_set (i := 5) sc_Lunlike.nd rfl (Or.inl rfl) (pe_callB (bIsE T.CE hz hf) (by rfl) B.isinstance_ boot_isinstance (pa_cons (pv 6) (pa_cons (pe_bltn (v := .ty "ValueError") (by rfl) B.ValueError_ boot_ValueError rfl) pa_nil)))))))
      (pss_one (ps_ret (pe_and (pe_cmpR op_eq (pv 4) pe_int (nomark _)) (pe_and (pv 5) (pe_one (pe_cmpR (oEqD (K := K) hr.units) (pv 3) (pe_lst (pa_cons (pv 1) (pa_cons (pv 2) pa_nil))) (nomark _)))))))))))), Go.here ?_⟩
    walk_at "s"; walk_at "ks"
    refine c_list hS fun x nx => ?_
    have e1 : Ex H (upd H x (.lst (ns.map V.int))) := Ex.new nx
    have x1 : (upd H x (.lst (ns.map V.int))) x = some (.lst (ns.map V.int)) := upd_same
    generalize upd H x (.lst (ns.map V.int)) = H1 at e1 x1
    walk_at "ks"
    refine c_list (ex_l e1 hT) fun y ny => ?_
    have e2 : Ex H (upd H1 y (.lst (ms.map V.int))) := e1.trans (Ex.new ny)
    have x2 := at_up (o := .lst (ms.map V.int)) x1 ny
    have y2 : (upd H1 y (.lst (ms.map V.int))) y = some (.lst (ms.map V.int)) := upd_same
    generalize upd H1 y (.lst (ms.map V.int)) = H2 at e2 x2 y2
    walk_at "ks"
    refine ⟨(by show 2 ≤ 100000; decide), fun h nh => ?_⟩
    have e3 : Ex H (upd H2 h (.lst [.ref x, .ref y])) := e2.trans (Ex.new nh)
    have x3 := at_up (o := .lst [.ref x, .ref y]) x2 nh
    have y3 := at_up (o := .lst [.ref x, .ref y]) y2 nh
    have h3 : (upd H2 h (.lst [.ref x, .ref y])) h = some (.lst [.ref x, .ref y]) := upd_same
    generalize upd H2 h (.lst [.ref x, .ref y]) = H3 at e3 x3 y3 h3
    walk_at "s"; walk_at "ks"
    refine gs_try ?_
    refine g2_drop ?_
    refine k_callS ?_
    walk_at "ks"
    refine r_ixL (v := .ref x) (sq_of h3) rfl ?_
    walk_at "ks"
    refine r_ixL (v := .ref y) (sq_of h3) rfl ?_
    walk_at "ks"
    refine k_Lasked (sq_of x3) (sq_of y3) hl na ?_
    refine ke_no T.e_Gap (ke_no T.e_NoGift (ke_no T.e_NoText (ke_yes T.e_Unlike fun z nz => g_tsD ?_)))
    walk_at "s"; walk_at "ks"
    walk_at "s"; walk_at "ks"
    refine gs_try ?_
    refine g2_drop ?_
    refine k_callS ?_
    walk_at "ks"
    refine r_ixL (v := .ref x) (sq_of h3) rfl ?_
    walk_at "ks"
    refine r_ixL (v := .ref y) (sq_of h3) rfl ?_
    walk_at "ks"
    refine k_Lasked (sq_of x3) (sq_of y3) hl na ?_
    refine ke_as T.e_PurseError fun z nz => g_tsD ?_
    refine g1_asgA ?_
    walk_at "ks"
    refine c_isET T.n_ValueError ?_
    walk_at "s"; walk_at "ks"
    refine ⟨fun _ => ?_, fun hb => Bool.noConfusion hb⟩
    walk_at "ks"
    refine ⟨fun _ => ?_, fun hb => Bool.noConfusion hb⟩
    walk_at "ks"
    refine ⟨(by show 2 ≤ 100000; decide), fun d nd => ?_⟩
    have e4 : Ex H3 (upd H3 d (.lst [.ref a, .ref b])) := Ex.new nd
    have e5 := e3.trans e4
    exact r_eqS (dp_two (sq_of (e4 _ _ h3)) (sq_of (e4 _ _ x3)) (sq_of (e4 _ _ y3))) (dp_two (sq_of upd_same) (ex_l e5 hS) (ex_l e5 hT)) (sh_two ns ms) (q.up e5)
theorem ok_Lall_unlike {C_PurseError C_NoGift C_Unlike C_Gap C_NoText : Addr} (T : TxtE K mg C_PurseError C_NoGift C_Unlike C_Gap C_NoText) {f : Addr} {fd : FuncData} (F : Fun K "_law_all_unlike" "_law_all_unlike" s_Lall_unlike f fd) (B : Bl mg) {f_Lunlike : Addr} {fd_Lunlike : FuncData} (c_Lunlike : Cl P w K mg base CX0 5 "_law_unlike" f_Lunlike fd_Lunlike ["_law_which", "_law_one", "_law_other"] (spLunlike K)) : FnOk P w K mg base CX0 6 f fd ["_law_one", "_law_other"] (spLall_unlike K) := by
  refine F.ok sc_Lall_unlike (fun vs H Q E h => ?_) (fun cdv A outer s H vs Q E hr h => ?_)
  · obtain ⟨a, b, ns, ms, rfl, _⟩ := h
    rfl
  · obtain ⟨a, b, ns, ms, rfl, hS, hT, hl, hl2, na, q⟩ := h
    refine ⟨_, (pss_cons (ps_for PassesOwn.never rfl (pi_range1 (by rfl) B.range_ (pa_cons pe_int pa_nil)) (pg_name (i := 2) sc_Lall_unlike.nd rfl (Or.inl rfl)) (pss_one (ps_if (PW.pt (pw_or (pt_not (pt_val (pe_call c_Lunlike.ok (hr.mono (by decide)) (by rfl) c_Lunlike.gl c_Lunlike.kp c_Lunlike.bd .nil pass0 (pa_cons (pv 2) (pa_cons (pv 0) (pa_cons (pv 1) pa_nil)))))) (pw_or1 (pt_not (pt_val (pe_call c_Lunlike.ok (hr.mono (by decide)) (by rfl) c_Lunlike.gl c_Lunlike.kp c_Lunlike.bd .nil pass0 (pa_cons (pv 2) (pa_cons (pv 1) (pa_cons (pv 0) pa_nil))))))))) (pss_one (ps_ret pe_bl)) pss_nil)))
      (pss_one (ps_ret pe_bl))), Go.here ?_⟩
    refine gs_forR (n := 3) (fun i σ' H' => ∃ v : Option V, σ' = [some (.ref a), some (.ref b), v] ∧ H = H') ?_ ?_ ?_
    · walk_at "ks"
      exact ⟨rfl, by decide, by decide, none, rfl, rfl⟩
    · rintro i σ' H' hi ⟨v, rfl, rfl⟩
      walk_at "s"; walk_at "ks"
      refine k_Lunlike hS hT hl na ?_
      walk_at "ks"
      refine ⟨fun hb => Bool.noConfusion hb, fun _ => ?_⟩
      walk_at "ks"
      refine k_Lunlike hT hS hl2 (fun h => na h.symm) ?_
      walk_at "ks"
      refine ⟨fun hb => Bool.noConfusion hb, fun _ => ?_⟩
      exact g1_next fun H1 e1 => ⟨_, e1, _, rfl, rfl⟩
    · rintro σ' H' ⟨v, rfl, rfl⟩
      walk_at "s"; walk_at "ks"
      exact q
theorem ok_law {C_PurseError C_NoGift C_Unlike C_Gap C_NoText : Addr} (T : TxtE K mg C_PurseError C_NoGift C_Unlike C_Gap C_NoText) {f : Addr} {fd : FuncData} (F : Fun K "law" "law" s_law f fd) (B : Bl mg) {f_Lall_unlike : Addr} {fd_Lall_unlike : FuncData} (c_Lall_unlike : Cl P w K mg base CX0 6 "_law_all_unlike" f_Lall_unlike fd_Lall_unlike ["_law_one", "_law_other"] (spLall_unlike K)) {f_Lcell_at : Addr} {fd_Lcell_at : FuncData} (c_Lcell_at : Cl P w K mg base CX0 1 "_law_cell_at" f_Lcell_at fd_Lcell_at ["_law_script", "_law_k"] (spLcell_at K)) {f_Llevel : Addr} {fd_Llevel : FuncData} (c_Llevel : Cl P w K mg base CX0 1 "_law_level" f_Llevel fd_Llevel ["_law_row"] (spLlevel K)) {f_Lpair : Addr} {fd_Lpair : FuncData} (c_Lpair : Cl P w K mg base CX0 2 "_law_pair" f_Lpair fd_Lpair ["_law_script"] (spLpair K)) {f_Lpair_good : Addr} {fd_Lpair_good : FuncData} (c_Lpair_good : Cl P w K mg base CX0 3 "_law_pair_good" f_Lpair_good fd_Lpair_good ["_law_one", "_law_other"] (spLpair_good K)) {f_Lwhole : Addr} {fd_Lwhole : FuncData} (c_Lwhole : Cl P w K mg base CX0 1 "_law_whole" f_Lwhole fd_Lwhole ["_law_found"] (spLwhole K)) {f_dues : Addr} {fd_dues : FuncData} (c_dues : Cl P w K mg base (L2.CX P w) 2 "dues" f_dues fd_dues ["one", "other"] (spdues K C_Unlike)) {f_gap : Addr} {fd_gap : FuncData} (c_gap : Cl P w K mg base (L2.CX P w) 2 "gap" f_gap fd_gap ["one", "other"] (spgap K C_Unlike)) : FnOk P w K mg base CX0 7 f fd ["_law_script"] (spLaw K) := by
  refine F.ok sc_law (fun vs H Q E h => ?_) (fun cdv A outer s H vs Q E hr h => ?_)
  · obtain ⟨a, ns, rfl, _⟩ := h
    rfl
  · obtain ⟨a, ss, rfl, hS, hl, hbits, q⟩ := h
    refine ⟨_, (pss_cons (ps_asg (pe_call c_Lpair.ok (hr.mono (by decide)) (by rfl) c_Lpair.gl c_Lpair.kp c_Lpair.bd .nil pass0 (pa_cons (pv 0) pa_nil)) (pgT (K := K) rfl (pgs_cons (pg_name (i := 1) sc_law.nd rfl (Or.inl rfl)) (pgs_cons (pg_name (i := 2) sc_law.nd rfl (Or.inl rfl)) pgs_nil))))
      (pss_cons (ps_if (PW.pt (pw_or (pt_not (pt_val (pe_call c_Lpair_good.ok (hr.mono (by decide)) (by rfl) c_Lpair_good.gl c_Lpair_good.kp c_Lpair_good.bd .nil pass0 (pa_cons (pv 1) (pa_cons (pv 2) pa_nil))))) (pw_or1 (pt_not (pt_val (pe_call c_Lpair_good.ok (hr.mono (by decide)) (by rfl) c_Lpair_good.gl c_Lpair_good.kp c_Lpair_good.bd .nil pass0 (pa_cons (pv 2) (pa_cons (pv 1) pa_nil)))))))) (pss_one (ps_ret pe_bl)) pss_nil)
      (pss_cons (ps_set (i := 3) sc_law.nd rfl (Or.inl rfl) (pe_slice (sll (K := K)) (pv 2) po_none (po_some pe_int)))
      (pss_cons (ps_if (pt_not (pt_val (pe_call c_Lall_unlike.ok (hr.mono (by decide)) (by rfl) c_Lall_unlike.gl c_Lall_unlike.kp c_Lall_unlike.bd .nil pass0 (pa_cons (pv 3) (pa_cons (pe_op op_cat (pv 3) (pe_lst (pa_cons (pe_op op_sub (pe_op op_mod (pe_call c_Lcell_at.ok (hr.mono (by decide)) (by rfl) c_Lcell_at.gl c_Lcell_at.kp c_Lcell_at.bd .nil pass0 (pa_cons (pv 0) (pa_cons pe_int pa_nil))) pe_int) pe_int) pa_nil))) pa_nil))))) (pss_one (ps_ret pe_bl)) pss_nil)
      (Evl.pss_cut (ps_if (pt_cmpR op_gt (pe_callB (bLen (K := K)) (by rfl) B.len_ boot_len (pa_cons (pv 1) pa_nil)) pe_int (nomark _)) (pss_cons (ps_if (pt_cmpR op_notN (pe_call c_gap.ok (hr.mono (by decide)) (by rfl) c_gap.gl c_gap.kp c_gap.bd .nil passL (pa_cons (pe_callTy (bList (K := K)) (by rfl) B.list_ boot_list (pa_cons (pv 1) pa_nil)) (pa_cons (pe_call c_Llevel.ok (hr.mono (by decide)) (by rfl) c_Llevel.gl c_Llevel.kp c_Llevel.bd .nil pass0 (pa_cons (pv 1) pa_nil)) pa_nil))) pe_non (nomark _)) (pss_one (ps_ret pe_bl)) pss_nil)
      (pss_cons (ps_set (i := 4) sc_law.nd rfl (Or.inl rfl) (pe_callTy (bList (K := K)) (by rfl) B.list_ boot_list (pa_cons (pv 2) pa_nil)))
      (pss_cons (ps_expr (peBm0 (K := K) PySem.F.plainAttrs_list PySem.F.slot_list_reverse PySem.F.type_list_reverse mt_reverse (pv 4)))
      (pss_cons (ps_set (i := 5) sc_law.nd rfl (Or.inl rfl) (pe_call c_dues.ok (hr.mono (by decide)) (by rfl) c_dues.gl c_dues.kp c_dues.bd .nil passL (pa_cons (pv 4) (pa_cons (pe_callTy (bList (K := K)) (by rfl) B.list_ boot_list (pa_cons (pv 2) pa_nil)) pa_nil))))
      (pss_cons (ps_if (PW.pt (pw_or (pt_not (pt_val (pe_call c_Lwhole.ok (hr.mono (by decide)) (by rfl) c_Lwhole.gl c_Lwhole.kp c_Lwhole.bd .nil pass0 (pa_cons (pv 5) pa_nil)))) (pw_or1 (pt_cmpR op_ne (pv 5) pe_int (nomark _))))) (pss_one (ps_ret pe_bl)) pss_nil)
      (pss_cons (ps_set (i := 6) sc_law.nd rfl (Or.inl rfl) (pe_op op_mod (pe_op op_fdiv (pe_call c_Lcell_at.ok (hr.mono (by decide)) (by rfl) c_Lcell_at.gl c_Lcell_at.kp c_Lcell_at.bd .nil pass0 (pa_cons (pv 0) (pa_cons pe_int pa_nil))) pe_int) (pe_callB (bLen (K := K)) (by rfl) B.len_ boot_len (pa_cons (pv 2) pa_nil))))
      (pss_cons (ps_set (i := 7) sc_law.nd rfl (Or.inl rfl) (pe_op op_cat (pe_op op_cat (pe_slice (sll (K := K)) (pv 2) po_none (po_some (pv 6))) (pe_lst (pa_cons (pe_op op_sub (pe_op op_add (pe_ix (ixl (K := K)) (pv 2) (pv 6) (fun _ _ => rfl)) pe_int) (pe_op op_mulX pe_int (pe_op op_mod (pe_op op_fdiv (pe_call c_Lcell_at.ok (hr.mono (by decide)) (by rfl) c_Lcell_at.gl c_Lcell_at.kp c_Lcell_at.bd .nil pass0 (pa_cons (pv 0) (pa_cons pe_int pa_nil))) pe_int) pe_int))) pa_nil))) (pe_slice (sll (K := K)) (pv 2) (po_some (pe_op op_add (pv 6) pe_int)) po_none)))
      (pss_one (ps_if (pt_not (pt_val (pe_call c_Lall_unlike.ok (hr.mono (by decide)) (by rfl) c_Lall_unlike.gl c_Lall_unlike.kp c_Lall_unlike.bd .nil pass0 (pa_cons (pv 1) (pa_cons (pv 7) pa_nil))))) (pss_one (ps_ret pe_bl)) pss_nil))))))))) pss_nil)
      (pss_one (ps_ret (pe_and (pe_call c_Lpair_good.ok (hr.mono (by decide)) (by rfl) c_Lpair_good.gl c_Lpair_good.kp c_Lpair_good.bd .nil pass0 (pa_cons (pv 1) (pa_cons (pv 2) pa_nil))) (pe_one (pe_call c_Lpair_good.ok (hr.mono (by decide)) (by rfl) c_Lpair_good.gl c_Lpair_good.kp c_Lpair_good.bd .nil pass0 (pa_cons (pe_callTy (bList (K := K)) (by rfl) B.list_ boot_list (pa_cons (pv 1) pa_nil)) (pa_cons (pe_callTy (bList (K := K)) (by rfl) B.list_ boot_list (pa_cons (pv 1) pa_nil)) pa_nil)))))))))))), Go.here ?_⟩
    refine gs_asgG ?_
    walk_at "ks"
    refine k_Lpair hS hl fun p x y ns ms H1 e1 hp hx hy al hn => ?_
    refine gk_tup2 hp (gk_name (gk_name ?_))
    have al1 := al.1
    have hS1 := ex_l e1 hS
    walk_at "s"; walk_at "ks"
    refine k_Lpair_good hx hy (by omega) al ?_
    walk_at "ks"
    refine ⟨fun hb => Bool.noConfusion hb, fun _ => ?_⟩
    walk_at "ks"
    refine k_Lpair_good hy hx (by omega) al.symm ?_
    walk_at "ks"
    refine ⟨fun hb => Bool.noConfusion hb, fun _ => ?_⟩
    walk_at "s"; walk_at "ks"
    refine r_slL hy fun f nf => ?_
    obtain ⟨fs, ef, hfs1, hfs2⟩ := cut_ints ms none (some 30)
    rw [ef]
    have e2 : Ex H1 (upd H1 f (.lst (fs.map V.int))) := Ex.new nf
    have f2 : (upd H1 f (.lst (fs.map V.int))) f = some (.lst (fs.map V.int)) := upd_same
    generalize upd H1 f (.lst (fs.map V.int)) = H2 at e2 f2
    walk_at "s"; walk_at "ks"
    refine k_Lcell_at (ex_l e2 hS1) (by decide) ?_
    walk_at "ks"
    generalize cellAt ss 2 % 5 - 2 = z
    refine ⟨(by show 1 ≤ 100000; decide), fun u nu => ?_⟩
    have e3 := e2.trans (Ex.new (o := .lst [V.int z]) nu)
    have f3 := at_up (o := .lst [V.int z]) f2 nu
    have u3 : (upd H2 u (.lst [V.int z])) u = some (.lst [V.int z]) := upd_same
    generalize upd H2 u (.lst [V.int z]) = H3 at e3 f3 u3
    refine r_cat f3 u3 (by rw [List.length_map]; show _ + 1 ≤ _; omega) fun t nt => ?_
    rw [show fs.map V.int ++ [V.int z] = (fs ++ [z]).map V.int by rw [List.map_append]; rfl]
    have e4 := e3.trans (Ex.new (o := .lst ((fs ++ [z]).map V.int)) nt)
    have f4 := at_up (o := .lst ((fs ++ [z]).map V.int)) f3 nt
    have t4 : (upd H3 t (.lst ((fs ++ [z]).map V.int))) t = some (.lst ((fs ++ [z]).map V.int)) := upd_same
    generalize upd H3 t (.lst ((fs ++ [z]).map V.int)) = H4 at e4 f4 t4
    walk_at "ks"
    refine k_Lall_unlike (sq_of f4) (sq_of t4) (by omega) (by rw [List.length_append]; show _ + 1 ≤ _; omega) (fun h => by
      have h1 := h.1
      rw [List.length_append] at h1
      simp at h1) ?_
    walk_at "ks"
    refine ⟨fun hb => Bool.noConfusion hb, fun _ => ?_⟩
    clear e3 f3 u3 e2 f2
    refine gs_mid (fun σ' H' => ∃ v1 v2 v3 v4 : Option V, σ' = [some (.ref a), some (.ref x), some (.ref y), some (.ref f), v1, v2, v3, v4] ∧ Ex H1 H') ?_ ?_
    · walk_at "s"; walk_at "ks"
      refine c_len (ex_l e4 hx) ?_
      rw [List.length_map]
      walk_at "ks"
      refine ⟨fun hb => ?_, fun hb => ?_⟩
      rotate_left
      · exact g1_next fun H7 e7 => ⟨_, e7, _, _, _, _, rfl, e4⟩
      have n0 := of_decide_eq_true hb
      have n0' : 0 < ns.length := by omega
      walk_at "s"; walk_at "ks"
      refine c_list (ex_l e4 hx) fun b1 nb1 => ?_
      have e5 := e4.trans (Ex.new (o := .lst (ns.map V.int)) nb1)
      have b5 : (upd H4 b1 (.lst (ns.map V.int))) b1 = some (.lst (ns.map V.int)) := upd_same
      generalize upd H4 b1 (.lst (ns.map V.int)) = H5 at e5 b5
      walk_at "ks"
      refine k_Llevel (ex_l e5 hx) n0' (by omega) fun b2 nb2 => ?_
      have e6 := e5.trans (Ex.new (o := .lst ((Pm.level ns.length ns.sum).map V.int)) nb2)
      have b6 := at_up (o := .lst ((Pm.level ns.length ns.sum).map V.int)) b5 nb2
      have l6 : (upd H5 b2 (.lst ((Pm.level ns.length ns.sum).map V.int))) b2 = some (.lst ((Pm.level ns.length ns.sum).map V.int)) := upd_same
      generalize upd H5 b2 (.lst ((Pm.level ns.length ns.sum).map V.int)) = H6 at e6 b6 l6
      walk_at "ks"
      refine fun E => k_gap (sq_of b6) (sq_of l6) (by omega) (fun n => absurd ⟨(Pm.level_len _ _).symm, (Pm.level_sum n0').symm⟩ n) fun _ o ho => ?_
      obtain rfl := Pw.gap_level ho
      dsimp only [Pw.oV]
      walk_at "ks"
      refine r_notN ?_
      rw [decide_eq_true rfl]
      walk_at "ks"
      refine ⟨fun hb => Bool.noConfusion hb, fun _ => ?_⟩
      clear e5 b5
      walk_at "s"; walk_at "ks"
      refine c_list (ex_l e6 hy) fun b3 nb3 => ?_
      have nb30 := fresh_back e6 nb3
      have e7 := e6.trans (Ex.new (o := .lst (ms.map V.int)) nb3)
      have b7 : (upd H6 b3 (.lst (ms.map V.int))) b3 = some (.lst (ms.map V.int)) := upd_same
      generalize upd H6 b3 (.lst (ms.map V.int)) = H7 at e7 b7
      walk_at "s"; walk_at "ks"
      refine ⟨tyl (sq_of b7), ?_⟩
      refine m_reverse b7 ?_
      rw [← List.map_reverse]
      have e8 := Ex.mut (o := .lst (ms.reverse.map V.int)) e7 nb30
      have b8 : (upd H7 b3 (.lst (ms.reverse.map V.int))) b3 = some (.lst (ms.reverse.map V.int)) := upd_same
      generalize upd H7 b3 (.lst (ms.reverse.map V.int)) = H8 at e8 b8
      walk_at "s"; walk_at "ks"
      refine c_list (ex_l e8 hy) fun b4 nb4 => ?_
      have e9 := e8.trans (Ex.new (o := .lst (ms.map V.int)) nb4)
      have b9 := at_up (o := .lst (ms.map V.int)) b8 nb4
      have c9 : (upd H8 b4 (.lst (ms.map V.int))) b4 = some (.lst (ms.map V.int)) := upd_same
      generalize upd H8 b4 (.lst (ms.map V.int)) = H9 at e9 b9 c9
      walk_at "ks"
      refine fun E => k_dues (sq_of b9) (sq_of c9) (by rw [List.length_reverse]; omega) (fun n => absurd (Pw.Alike.of_perm (List.reverse_perm ms)) n) fun _ => ?_
      rw [Pw.dues_perm (List.reverse_perm ms)]
      walk_at "s"; walk_at "ks"
      refine k_Lwhole ?_
      walk_at "ks"
      refine ⟨fun hb => Bool.noConfusion hb, fun _ => ?_⟩
      walk_at "ks"
      refine ⟨fun hb => Bool.noConfusion hb, fun _ => ?_⟩
      have hy9 := ex_l e9 hy
      walk_at "s"; walk_at "ks"
      refine k_Lcell_at (ex_l e9 hS1) (by decide) ?_
      walk_at "ks"
      refine c_len hy9 ?_
      rw [List.length_map]
      walk_at "ks"
      have i0 := Int.emod_nonneg (cellAt ss 1 / 338) (show (ms.length : Int) ≠ 0 by omega)
      have i1 := Int.emod_lt_of_pos (cellAt ss 1 / 338) (show 0 < (ms.length : Int) by omega)
      obtain ⟨i, ei⟩ : ∃ j : Nat, cellAt ss 1 / 338 % (ms.length : Int) = (j : Int) := ⟨_, (Int.toNat_of_nonneg i0).symm⟩
      rw [ei] at i1
      rw [ei]
      walk_at "s"; walk_at "ks"
      refine r_slL hy9 fun d1 nd1 => ?_
      rw [cut_to (by rw [List.length_map]; omega), ← List.map_take]
      have e10 := e9.trans (Ex.new (o := .lst ((ms.take i).map V.int)) nd1)
      have d10 : (upd H9 d1 (.lst ((ms.take i).map V.int))) d1 = some (.lst ((ms.take i).map V.int)) := upd_same
      generalize upd H9 d1 (.lst ((ms.take i).map V.int)) = H10 at e10 d10
      walk_at "ks"
      refine r_ixL (ex_l e10 hy) (at_getD (by omega) (by omega)) ?_
      rw [Int.toNat_natCast]
      walk_at "ks"
      refine k_Lcell_at (ex_l e10 hS1) (by decide) ?_
      walk_at "ks"
      have b0 := Int.emod_nonneg (cellAt ss 2 / 7) (show (2 : Int) ≠ 0 by decide)
      have b1 := Int.emod_lt_of_pos (cellAt ss 2 / 7) (show (0 : Int) < 2 by decide)
      generalize cellAt ss 2 / 7 % 2 = bb at b0 b1
      refine ⟨(by show 1 ≤ 100000; decide), fun d2 nd2 => ?_⟩
      have e11 := e10.trans (Ex.new (o := .lst [V.int (ms.getD i 0 + 1 - 2 * bb)]) nd2)
      have d11 := at_up (o := .lst [V.int (ms.getD i 0 + 1 - 2 * bb)]) d10 nd2
      have g11 : (upd H10 d2 (.lst [V.int (ms.getD i 0 + 1 - 2 * bb)])) d2 = some (.lst [V.int (ms.getD i 0 + 1 - 2 * bb)]) := upd_same
      generalize upd H10 d2 (.lst [V.int (ms.getD i 0 + 1 - 2 * bb)]) = H11 at e11 d11 g11
      refine r_cat d11 g11 (by rw [List.length_map, List.length_take]; show _ + 1 ≤ _; omega) fun d3 nd3 => ?_
      rw [show (ms.take i).map V.int ++ [V.int (ms.getD i 0 + 1 - 2 * bb)] = (ms.take i ++ [ms.getD i 0 + 1 - 2 * bb]).map V.int by rw [List.map_append]; rfl]
      have e12 := e11.trans (Ex.new (o := .lst ((ms.take i ++ [ms.getD i 0 + 1 - 2 * bb]).map V.int)) nd3)
      have d12 : (upd H11 d3 (.lst ((ms.take i ++ [ms.getD i 0 + 1 - 2 * bb]).map V.int))) d3 = some (.lst ((ms.take i ++ [ms.getD i 0 + 1 - 2 * bb]).map V.int)) := upd_same
      generalize upd H11 d3 (.lst ((ms.take i ++ [ms.getD i 0 + 1 - 2 * bb]).map V.int)) = H12 at e12 d12
      walk_at "ks"
      refine r_slL (ex_l e12 hy) fun d4 nd4 => ?_
      rw [show ((i : Int) + 1) = ((i + 1 : Nat) : Int) from rfl, cut_fromN (by rw [List.length_map]; omega), ← List.map_drop]
      have e13 := e12.trans (Ex.new (o := .lst ((ms.drop (i + 1)).map V.int)) nd4)
      have d13 := at_up (o := .lst ((ms.drop (i + 1)).map V.int)) d12 nd4
      have g13 : (upd H12 d4 (.lst ((ms.drop (i + 1)).map V.int))) d4 = some (.lst ((ms.drop (i + 1)).map V.int)) := upd_same
      generalize upd H12 d4 (.lst ((ms.drop (i + 1)).map V.int)) = H13 at e13 d13 g13
      refine r_cat d13 g13 (by rw [List.length_map, List.length_map, List.length_append, List.length_take, List.length_drop]; show _ + 1 + _ ≤ _; omega) fun d5 nd5 => ?_
      rw [← List.map_append]
      have e14 := e13.trans (Ex.new (o := .lst ((ms.take i ++ [ms.getD i 0 + 1 - 2 * bb] ++ ms.drop (i + 1)).map V.int)) nd5)
      have d14 : (upd H13 d5 (.lst ((ms.take i ++ [ms.getD i 0 + 1 - 2 * bb] ++ ms.drop (i + 1)).map V.int))) d5 = some (.lst ((ms.take i ++ [ms.getD i 0 + 1 - 2 * bb] ++ ms.drop (i + 1)).map V.int)) := upd_same
      generalize upd H13 d5 (.lst ((ms.take i ++ [ms.getD i 0 + 1 - 2 * bb] ++ ms.drop (i + 1)).map V.int)) = H14 at e14 d14
      walk_at "s"; walk_at "ks"
      refine k_Lall_unlike (ex_l e14 hx) (sq_of d14) (by omega) (by rw [List.length_append, List.length_append, List.length_take, List.length_drop]; show _ + 1 + _ ≤ _; omega) (Pw.odd_unlike al (by omega) (by omega)) ?_
      walk_at "ks"
      refine ⟨fun hb => Bool.noConfusion hb, fun _ => ?_⟩
      exact g1_next fun H7 e7 => ⟨_, e7, _, _, _, _, rfl, e14⟩
    rintro σ' H5 ⟨v1, v2, v3, v4, rfl, e5⟩
    walk_at "s"; walk_at "ks"
    refine k_Lpair_good (ex_l e5 hx) (ex_l e5 hy) (by omega) al ?_
    walk_at "ks"
    refine ⟨fun _ => ?_, fun hb => Bool.noConfusion hb⟩
    walk_at "ks"
    refine c_list (ex_l e5 hx) fun b1 nb1 => ?_
    have e6 := e5.trans (Ex.new (o := .lst (ns.map V.int)) nb1)
    have b6 : (upd H5 b1 (.lst (ns.map V.int))) b1 = some (.lst (ns.map V.int)) := upd_same
    generalize upd H5 b1 (.lst (ns.map V.int)) = H6 at e6 b6
    walk_at "ks"
    refine c_list (ex_l e6 hx) fun b2 nb2 => ?_
    walk_at "ks"
    exact k_Lpair_good (sq_of (at_up b6 nb2)) (sq_of upd_same) (by omega) ⟨rfl, rfl⟩ fun H9 _ => q H9
end
theorem all_mk {l : PySem.W.OpenLaw} {w : World} {K : PySem.W.Frag} {h : Heap} {mg : Str → Option Value} {fa f1 f2 f3 f4 f5 f6 f7 f8 f9 f10 f11 f12 f13 f14 f15 f16 f17 : Addr} (X : K.In h) (G : h.Ns mainGlobals mg) (hfa : mg "law" = some (.ref fa))
    {od1 an1 od2 an2 od3 an3 od4 an4 od5 an5 od6 an6 od7 an7 od8 an8 od9 an9 od10 an10 od11 an11 od12 an12 od13 an13 od14 an14 od15 an15 od16 an16 od17 an17 : Option Addr} {sl1 sl2 sl3 sl4 sl5 sl6 sl7 sl8 sl9 sl10 sl11 sl12 sl13 sl14 sl15 sl16 sl17 : Array (Option Value)} {oc1 kV1 dc1 pm1 cd1 ct1 oc2 kV2 dc2 pm2 cd2 ct2 oc3 kV3 dc3 pm3 cd3 ct3 oc4 kV4 dc4 pm4 cd4 ct4 oc5 kV5 dc5 pm5 cd5 ct5 oc6 kV6 dc6 pm6 cd6 ct6 oc7 kV7 dc7 pm7 cd7 ct7 oc8 kV8 dc8 pm8 cd8 ct8 oc9 kV9 dc9 pm9 cd9 ct9 oc10 kV10 dc10 pm10 cd10 ct10 oc11 kV11 dc11 pm11 cd11 ct11 oc12 kV12 dc12 pm12 cd12 ct12 oc13 kV13 dc13 pm13 cd13 ct13 oc14 kV14 dc14 pm14 cd14 ct14 oc15 kV15 dc15 pm15 cd15 ct15 oc16 kV16 dc16 pm16 cd16 ct16 oc17 kV17 dc17 pm17 cd17 ct17 : Value} {C_PurseError C_NoGift C_Unlike C_Gap C_NoText : Addr}
    (a1 : PySem.W.nsIn K mainGlobals "together" = some (some (.ref f1))) (l1 : K.lookup f1 = some ⟨oc1, od1, .func (PySem.W.fnOf "together" "together" (defArgs s_together) (defBody s_together) (defScope s_together) .none kV1 dc1 pm1 an1 cd1 ct1), sl1⟩) (c1 : PySem.W.codeIn K cd1 "together" = true) (k1 : PySem.W.keepIn K (.ref f1) = true)
    (a2 : PySem.W.nsIn K mainGlobals "dues" = some (some (.ref f2))) (l2 : K.lookup f2 = some ⟨oc2, od2, .func (PySem.W.fnOf "dues" "dues" (defArgs s_dues) (defBody s_dues) (defScope s_dues) .none kV2 dc2 pm2 an2 cd2 ct2), sl2⟩) (c2 : PySem.W.codeIn K cd2 "dues" = true) (k2 : PySem.W.keepIn K (.ref f2) = true)
    (a3 : PySem.W.nsIn K mainGlobals "tops" = some (some (.ref f3))) (l3 : K.lookup f3 = some ⟨oc3, od3, .func (PySem.W.fnOf "tops" "tops" (defArgs s_tops) (defBody s_tops) (defScope s_tops) .none kV3 dc3 pm3 an3 cd3 ct3), sl3⟩) (c3 : PySem.W.codeIn K cd3 "tops" = true) (k3 : PySem.W.keepIn K (.ref f3) = true)
    (a4 : PySem.W.nsIn K mainGlobals "gap" = some (some (.ref f4))) (l4 : K.lookup f4 = some ⟨oc4, od4, .func (PySem.W.fnOf "gap" "gap" (defArgs s_gap) (defBody s_gap) (defScope s_gap) .none kV4 dc4 pm4 an4 cd4 ct4), sl4⟩) (c4 : PySem.W.codeIn K cd4 "gap" = true) (k4 : PySem.W.keepIn K (.ref f4) = true)
    (a5 : PySem.W.nsIn K mainGlobals "way" = some (some (.ref f5))) (l5 : K.lookup f5 = some ⟨oc5, od5, .func (PySem.W.fnOf "way" "way" (defArgs s_way) (defBody s_way) (defScope s_way) .none kV5 dc5 pm5 an5 cd5 ct5), sl5⟩) (c5 : PySem.W.codeIn K cd5 "way" = true) (k5 : PySem.W.keepIn K (.ref f5) = true)
    (a6 : PySem.W.nsIn K mainGlobals "_law_asked" = some (some (.ref f6))) (l6 : K.lookup f6 = some ⟨oc6, od6, .func (PySem.W.fnOf "_law_asked" "_law_asked" (defArgs s_Lasked) (defBody s_Lasked) (defScope s_Lasked) .none kV6 dc6 pm6 an6 cd6 ct6), sl6⟩) (c6 : PySem.W.codeIn K cd6 "_law_asked" = true) (k6 : PySem.W.keepIn K (.ref f6) = true)
    (a7 : PySem.W.nsIn K mainGlobals "_law_unlike" = some (some (.ref f7))) (l7 : K.lookup f7 = some ⟨oc7, od7, .func (PySem.W.fnOf "_law_unlike" "_law_unlike" (defArgs s_Lunlike) (defBody s_Lunlike) (defScope s_Lunlike) .none kV7 dc7 pm7 an7 cd7 ct7), sl7⟩) (c7 : PySem.W.codeIn K cd7 "_law_unlike" = true) (k7 : PySem.W.keepIn K (.ref f7) = true)
    (a8 : PySem.W.nsIn K mainGlobals "_law_all_unlike" = some (some (.ref f8))) (l8 : K.lookup f8 = some ⟨oc8, od8, .func (PySem.W.fnOf "_law_all_unlike" "_law_all_unlike" (defArgs s_Lall_unlike) (defBody s_Lall_unlike) (defScope s_Lall_unlike) .none kV8 dc8 pm8 an8 cd8 ct8), sl8⟩) (c8 : PySem.W.codeIn K cd8 "_law_all_unlike" = true) (k8 : PySem.W.keepIn K (.ref f8) = true)
    (a9 : PySem.W.nsIn K mainGlobals "_law_cell_at" = some (some (.ref f9))) (l9 : K.lookup f9 = some ⟨oc9, od9, .func (PySem.W.fnOf "_law_cell_at" "_law_cell_at" (defArgs s_Lcell_at) (defBody s_Lcell_at) (defScope s_Lcell_at) .none kV9 dc9 pm9 an9 cd9 ct9), sl9⟩) (c9 : PySem.W.codeIn K cd9 "_law_cell_at" = true) (k9 : PySem.W.keepIn K (.ref f9) = true)
    (a10 : PySem.W.nsIn K mainGlobals "_law_level" = some (some (.ref f10))) (l10 : K.lookup f10 = some ⟨oc10, od10, .func (PySem.W.fnOf "_law_level" "_law_level" (defArgs s_Llevel) (defBody s_Llevel) (defScope s_Llevel) .none kV10 dc10 pm10 an10 cd10 ct10), sl10⟩) (c10 : PySem.W.codeIn K cd10 "_law_level" = true) (k10 : PySem.W.keepIn K (.ref f10) = true)
    (a11 : PySem.W.nsIn K mainGlobals "_law_purse" = some (some (.ref f11))) (l11 : K.lookup f11 = some ⟨oc11, od11, .func (PySem.W.fnOf "_law_purse" "_law_purse" (defArgs s_Lpurse) (defBody s_Lpurse) (defScope s_Lpurse) .none kV11 dc11 pm11 an11 cd11 ct11), sl11⟩) (c11 : PySem.W.codeIn K cd11 "_law_purse" = true) (k11 : PySem.W.keepIn K (.ref f11) = true)
    (a12 : PySem.W.nsIn K mainGlobals "_law_pair" = some (some (.ref f12))) (l12 : K.lookup f12 = some ⟨oc12, od12, .func (PySem.W.fnOf "_law_pair" "_law_pair" (defArgs s_Lpair) (defBody s_Lpair) (defScope s_Lpair) .none kV12 dc12 pm12 an12 cd12 ct12), sl12⟩) (c12 : PySem.W.codeIn K cd12 "_law_pair" = true) (k12 : PySem.W.keepIn K (.ref f12) = true)
    (a13 : PySem.W.nsIn K mainGlobals "_law_dues" = some (some (.ref f13))) (l13 : K.lookup f13 = some ⟨oc13, od13, .func (PySem.W.fnOf "_law_dues" "_law_dues" (defArgs s_Ldues) (defBody s_Ldues) (defScope s_Ldues) .none kV13 dc13 pm13 an13 cd13 ct13), sl13⟩) (c13 : PySem.W.codeIn K cd13 "_law_dues" = true) (k13 : PySem.W.keepIn K (.ref f13) = true)
    (a14 : PySem.W.nsIn K mainGlobals "_law_gap" = some (some (.ref f14))) (l14 : K.lookup f14 = some ⟨oc14, od14, .func (PySem.W.fnOf "_law_gap" "_law_gap" (defArgs s_Lgap) (defBody s_Lgap) (defScope s_Lgap) .none kV14 dc14 pm14 an14 cd14 ct14), sl14⟩) (c14 : PySem.W.codeIn K cd14 "_law_gap" = true) (k14 : PySem.W.keepIn K (.ref f14) = true)
    (a15 : PySem.W.nsIn K mainGlobals "_law_whole" = some (some (.ref f15))) (l15 : K.lookup f15 = some ⟨oc15, od15, .func (PySem.W.fnOf "_law_whole" "_law_whole" (defArgs s_Lwhole) (defBody s_Lwhole) (defScope s_Lwhole) .none kV15 dc15 pm15 an15 cd15 ct15), sl15⟩) (c15 : PySem.W.codeIn K cd15 "_law_whole" = true) (k15 : PySem.W.keepIn K (.ref f15) = true)
    (a16 : PySem.W.nsIn K mainGlobals "_law_pair_good" = some (some (.ref f16))) (l16 : K.lookup f16 = some ⟨oc16, od16, .func (PySem.W.fnOf "_law_pair_good" "_law_pair_good" (defArgs s_Lpair_good) (defBody s_Lpair_good) (defScope s_Lpair_good) .none kV16 dc16 pm16 an16 cd16 ct16), sl16⟩) (c16 : PySem.W.codeIn K cd16 "_law_pair_good" = true) (k16 : PySem.W.keepIn K (.ref f16) = true)
    (a17 : PySem.W.nsIn K mainGlobals "law" = some (some (.ref f17))) (l17 : K.lookup f17 = some ⟨oc17, od17, .func (PySem.W.fnOf "law" "law" (defArgs s_law) (defBody s_law) (defScope s_law) .none kV17 dc17 pm17 an17 cd17 ct17), sl17⟩) (c17 : PySem.W.codeIn K cd17 "law" = true) (k17 : PySem.W.keepIn K (.ref f17) = true)
    (z_ValueError : PySem.W.nsIn K mainGlobals "ValueError" = some none) (z_bool : PySem.W.nsIn K mainGlobals "bool" = some none) (z_int : PySem.W.nsIn K mainGlobals "int" = some none) (z_isinstance : PySem.W.nsIn K mainGlobals "isinstance" = some none) (z_len : PySem.W.nsIn K mainGlobals "len" = some none) (z_list : PySem.W.nsIn K mainGlobals "list" = some none) (z_max : PySem.W.nsIn K mainGlobals "max" = some none) (z_range : PySem.W.nsIn K mainGlobals "range" = some none) (z_sorted : PySem.W.nsIn K mainGlobals "sorted" = some none) (z_sum : PySem.W.nsIn K mainGlobals "sum" = some none) (z_zip : PySem.W.nsIn K mainGlobals "zip" = some none)
    (ePurseError : PySem.W.nsIn K mainGlobals "PurseError" = some (some (.ref C_PurseError))) (eNoGift : PySem.W.nsIn K mainGlobals "NoGift" = some (some (.ref C_NoGift))) (eUnlike : PySem.W.nsIn K mainGlobals "Unlike" = some (some (.ref C_Unlike))) (eGap : PySem.W.nsIn K mainGlobals "Gap" = some (some (.ref C_Gap))) (eNoText : PySem.W.nsIn K mainGlobals "NoText" = some (some (.ref C_NoText))) (xN : PySem.W.excIn K C_Unlike [.type "ValueError", .type "Exception", .type "BaseException", .type "object"] "ValueError.__new__" = true) (kN : PySem.W.keepIn K (.ref C_Unlike) = true) (bN : PySem.W.subIn K (.ref C_Unlike) (.type "BaseException") = some true) (tN : PySem.W.typeIn K (.ref C_Unlike) = some (.type "type")) (q1PurseError : PySem.W.subIn K (.ref C_PurseError) (.type "BaseException") = some true) (q2PurseError : PySem.W.hasDictIn K C_PurseError = true) (q3PurseError : PySem.W.typeIn K (.ref C_PurseError) = some (.type "type")) (q4PurseError : PySem.W.subIn K (.ref C_Unlike) (.ref C_PurseError) = some true) (q1Gap : PySem.W.subIn K (.ref C_Gap) (.type "BaseException") = some true) (q2Gap : PySem.W.hasDictIn K C_Gap = true) (q3Gap : PySem.W.typeIn K (.ref C_Gap) = some (.type "type")) (q4Gap : PySem.W.subIn K (.ref C_Unlike) (.ref C_Gap) = some false) (q1NoGift : PySem.W.subIn K (.ref C_NoGift) (.type "BaseException") = some true) (q2NoGift : PySem.W.hasDictIn K C_NoGift = true) (q3NoGift : PySem.W.typeIn K (.ref C_NoGift) = some (.type "type")) (q4NoGift : PySem.W.subIn K (.ref C_Unlike) (.ref C_NoGift) = some false) (q1NoText : PySem.W.subIn K (.ref C_NoText) (.type "BaseException") = some true) (q2NoText : PySem.W.hasDictIn K C_NoText = true) (q3NoText : PySem.W.typeIn K (.ref C_NoText) = some (.type "type")) (q4NoText : PySem.W.subIn K (.ref C_Unlike) (.ref C_NoText) = some false) (q2Unlike : PySem.W.hasDictIn K C_Unlike = true) (q4Unlike : PySem.W.subIn K (.ref C_Unlike) (.ref C_Unlike) = some true) (ga : PySem.W.findIn K (.ref C_Unlike) "__getattribute__" = some (some (.builtin "BaseException.__getattribute__"))) (gg : PySem.W.findIn K (.ref C_Unlike) "__getattr__" = some none) (hN : PySem.W.hasDictIn K C_Unlike = true) (gc : PySem.W.findIn K (.ref C_Unlike) "__class__" = some (some (.builtin "object.__class__"))) (gs : PySem.W.specialIn K (.builtin "object.__class__") "__get__" = some (some (.builtin "getset_descriptor.__get__"))) (gt : PySem.W.takesIn K (.builtin "object.__class__") = some true) (mo : PySem.W.mroIn K C_Unlike (.type "object") = some true) (kitValueError : PySem.W.kitOne K (.ref C_Unlike) (.type "ValueError") = some true)
    : ∃ fd : FuncData, (∀ (s : Shared) (v : Value), BindsTo s fd ⟨[v], []⟩ [("_law_script", v)]) ∧ ∀ base : Heap, K.In base → base.Ns mainGlobals mg → FnOk l.prog w K mg base CX0 7 fa fd ["_law_script"] (spLaw K) := by
  have e := hfa.symm.trans (PySem.W.mg_of X G a17)
  cases e
  have B : Bl mg := ⟨PySem.W.mg_none_of X G z_ValueError, PySem.W.mg_none_of X G z_bool, PySem.W.mg_none_of X G z_int, PySem.W.mg_none_of X G z_isinstance, PySem.W.mg_none_of X G z_len, PySem.W.mg_none_of X G z_list, PySem.W.mg_none_of X G z_max, PySem.W.mg_none_of X G z_range, PySem.W.mg_none_of X G z_sorted, PySem.W.mg_none_of X G z_sum, PySem.W.mg_none_of X G z_zip⟩
  have T : TxtE K mg C_PurseError C_NoGift C_Unlike C_Gap C_NoText := ⟨PySem.W.mg_of X G ePurseError, PySem.W.mg_of X G eNoGift, PySem.W.mg_of X G eUnlike, PySem.W.mg_of X G eGap, PySem.W.mg_of X G eNoText, xN, kN, bN, tN, PySem.W.exm_ref q1PurseError q2PurseError q3PurseError q4PurseError, PySem.W.exm_ref q1Gap q2Gap q3Gap q4Gap, PySem.W.exm_ref q1NoGift q2NoGift q3NoGift q4NoGift, PySem.W.exm_ref q1NoText q2NoText q3NoText q4NoText, PySem.W.exm_ref bN q2Unlike tN q4Unlike, ⟨ga, gg, bN, hN, gc, gs, gt, mo⟩, kitValueError⟩
  have F1 := fun_mk (st := s_together) l1 c1 k1
  have b1 := F1.binds (ps := ["one", "other"]) fun _ _ _ _ _ _ us hl => match us, hl with | [_, _], _ => rfl
  have F2 := fun_mk (st := s_dues) l2 c2 k2
  have b2 := F2.binds (ps := ["one", "other"]) fun _ _ _ _ _ _ us hl => match us, hl with | [_, _], _ => rfl
  have F3 := fun_mk (st := s_tops) l3 c3 k3
  have b3 := F3.binds (ps := ["row"]) fun _ _ _ _ _ _ us hl => match us, hl with | [_], _ => rfl
  have F4 := fun_mk (st := s_gap) l4 c4 k4
  have b4 := F4.binds (ps := ["one", "other"]) fun _ _ _ _ _ _ us hl => match us, hl with | [_, _], _ => rfl
  have F5 := fun_mk (st := s_way) l5 c5 k5
  have b5 := F5.binds (ps := ["one", "other"]) fun _ _ _ _ _ _ us hl => match us, hl with | [_, _], _ => rfl
  have F6 := fun_mk (st := s_Lasked) l6 c6 k6
  have b6 := F6.binds (ps := ["_law_which", "_law_one", "_law_other"]) fun _ _ _ _ _ _ us hl => match us, hl with | [_, _, _], _ => rfl
  have F7 := fun_mk (st := s_Lunlike) l7 c7 k7
  have b7 := F7.binds (ps := ["_law_which", "_law_one", "_law_other"]) fun _ _ _ _ _ _ us hl => match us, hl with | [_, _, _], _ => rfl
  have F8 := fun_mk (st := s_Lall_unlike) l8 c8 k8
  have b8 := F8.binds (ps := ["_law_one", "_law_other"]) fun _ _ _ _ _ _ us hl => match us, hl with | [_, _], _ => rfl
  have F9 := fun_mk (st := s_Lcell_at) l9 c9 k9
  have b9 := F9.binds (ps := ["_law_script", "_law_k"]) fun _ _ _ _ _ _ us hl => match us, hl with | [_, _], _ => rfl
  have F10 := fun_mk (st := s_Llevel) l10 c10 k10
  have b10 := F10.binds (ps := ["_law_row"]) fun _ _ _ _ _ _ us hl => match us, hl with | [_], _ => rfl
  have F11 := fun_mk (st := s_Lpurse) l11 c11 k11
  have b11 := F11.binds (ps := ["_law_cell", "_law_small"]) fun _ _ _ _ _ _ us hl => match us, hl with | [_, _], _ => rfl
  have F12 := fun_mk (st := s_Lpair) l12 c12 k12
  have b12 := F12.binds (ps := ["_law_script"]) fun _ _ _ _ _ _ us hl => match us, hl with | [_], _ => rfl
  have F13 := fun_mk (st := s_Ldues) l13 c13 k13
  have b13 := F13.binds (ps := ["_law_one", "_law_other"]) fun _ _ _ _ _ _ us hl => match us, hl with | [_, _], _ => rfl
  have F14 := fun_mk (st := s_Lgap) l14 c14 k14
  have b14 := F14.binds (ps := ["_law_one", "_law_other"]) fun _ _ _ _ _ _ us hl => match us, hl with | [_, _], _ => rfl
  have F15 := fun_mk (st := s_Lwhole) l15 c15 k15
  have b15 := F15.binds (ps := ["_law_found"]) fun _ _ _ _ _ _ us hl => match us, hl with | [_], _ => rfl
  have F16 := fun_mk (st := s_Lpair_good) l16 c16 k16
  have b16 := F16.binds (ps := ["_law_one", "_law_other"]) fun _ _ _ _ _ _ us hl => match us, hl with | [_, _], _ => rfl
  have F17 := fun_mk (st := s_law) l17 c17 k17
  refine ⟨PySem.W.fnOf "law" "law" (defArgs s_law) (defBody s_law) (defScope s_law) .none kV17 dc17 pm17 an17 cd17 ct17, fun s v => .of_eq rfl, fun base _ _ => ?_⟩
  have c_together : Cl l.prog w K mg base (L2.CX l.prog w) 1 "together" f1 _ ["one", "other"] (sptogether K C_Unlike) := ⟨ok_together T F1 B, PySem.W.mg_of X G a1, k1, b1⟩
  have c_dues : Cl l.prog w K mg base (L2.CX l.prog w) 2 "dues" f2 _ ["one", "other"] (spdues K C_Unlike) := ⟨ok_dues T F2 B c_together, PySem.W.mg_of X G a2, k2, b2⟩
  have c_tops : Cl l.prog w K mg base CX0 1 "tops" f3 _ ["row"] (spTops K) := ⟨ok_tops T F3 B, PySem.W.mg_of X G a3, k3, b3⟩
  have c_gap : Cl l.prog w K mg base (L2.CX l.prog w) 2 "gap" f4 _ ["one", "other"] (spgap K C_Unlike) := ⟨ok_gap T F4 B c_together c_tops, PySem.W.mg_of X G a4, k4, b4⟩
  have c_way : Cl l.prog w K mg base (L2.CX l.prog w) 3 "way" f5 _ ["one", "other"] (spway K C_Unlike) := ⟨ok_way T F5 B c_gap, PySem.W.mg_of X G a5, k5, b5⟩
  have c_Lasked : Cl l.prog w K mg base (L2.CX l.prog w) 4 "_law_asked" f6 _ ["_law_which", "_law_one", "_law_other"] (spLasked K C_Unlike) := ⟨ok_Lasked T F6 B c_dues c_gap c_way, PySem.W.mg_of X G a6, k6, b6⟩
  have c_Lunlike : Cl l.prog w K mg base CX0 5 "_law_unlike" f7 _ ["_law_which", "_law_one", "_law_other"] (spLunlike K) := ⟨ok_Lunlike T F7 B c_Lasked, PySem.W.mg_of X G a7, k7, b7⟩
  have c_Lall_unlike : Cl l.prog w K mg base CX0 6 "_law_all_unlike" f8 _ ["_law_one", "_law_other"] (spLall_unlike K) := ⟨ok_Lall_unlike T F8 B c_Lunlike, PySem.W.mg_of X G a8, k8, b8⟩
  have c_Lcell_at : Cl l.prog w K mg base CX0 1 "_law_cell_at" f9 _ ["_law_script", "_law_k"] (spLcell_at K) := ⟨ok_Lcell_at T F9 B, PySem.W.mg_of X G a9, k9, b9⟩
  have c_Llevel : Cl l.prog w K mg base CX0 1 "_law_level" f10 _ ["_law_row"] (spLlevel K) := ⟨ok_Llevel T F10 B, PySem.W.mg_of X G a10, k10, b10⟩
  have c_Lpurse : Cl l.prog w K mg base CX0 1 "_law_purse" f11 _ ["_law_cell", "_law_small"] (spLpurse K) := ⟨ok_Lpurse T F11 B, PySem.W.mg_of X G a11, k11, b11⟩
  have c_Lpair : Cl l.prog w K mg base CX0 2 "_law_pair" f12 _ ["_law_script"] (spLpair K) := ⟨ok_Lpair T F12 B c_Lcell_at c_Llevel c_Lpurse, PySem.W.mg_of X G a12, k12, b12⟩
  have c_Ldues : Cl l.prog w K mg base CX0 1 "_law_dues" f13 _ ["_law_one", "_law_other"] (spLdues K) := ⟨ok_Ldues T F13 B, PySem.W.mg_of X G a13, k13, b13⟩
  have c_Lgap : Cl l.prog w K mg base CX0 1 "_law_gap" f14 _ ["_law_one", "_law_other"] (spLgap K) := ⟨ok_Lgap T F14 B, PySem.W.mg_of X G a14, k14, b14⟩
  have c_Lwhole : Cl l.prog w K mg base CX0 1 "_law_whole" f15 _ ["_law_found"] (spLwhole K) := ⟨ok_Lwhole T F15 B, PySem.W.mg_of X G a15, k15, b15⟩
  have c_Lpair_good : Cl l.prog w K mg base CX0 3 "_law_pair_good" f16 _ ["_law_one", "_law_other"] (spLpair_good K) := ⟨ok_Lpair_good T F16 B c_Ldues c_Lgap c_Lwhole c_dues c_gap, PySem.W.mg_of X G a16, k16, b16⟩
  exact ok_law T F17 B c_Lall_unlike c_Lcell_at c_Llevel c_Lpair c_Lpair_good c_Lwhole c_dues c_gap

end K06
open PySem PySem.W PyProof.Rows
set_option maxRecDepth 100000 in
set_option maxHeartbeats 0 in
theorem PySem.Challenge.cw_pursewise_k06_gap_and_dues_holds : PySem.Challenge.rw_pursewise_k06_gap_and_dues.Holds := by
  w_on; o_law; k_head; (case hw => w_witness2)
  k_fill
  refine L2.walk_ofB (l := PySem.Challenge.rw_pursewise_k06_gap_and_dues) (n := 63) (k := 7) (x := "_law_script") (CX := fun _ => L2.CX0) (sp := fun w => K06.spLaw _) rfl (by decide) rfl ⟨rfl, by decide, by decide⟩ (fun w h Y => PySem.W.km_in_of Y) ?F (fun _ _ a ns hl hb _ hS => ⟨a, ns, rfl, hS, hl, hb, fun _ => rfl⟩) (fun _ _ _ _ _ h => h)
  case F =>
    intro w mg fa h KX G hmg
    refine' K06.all_mk KX G hmg ?a1 ?l1 ?c1 ?k1 ?a2 ?l2 ?c2 ?k2 ?a3 ?l3 ?c3 ?k3 ?a4 ?l4 ?c4 ?k4 ?a5 ?l5 ?c5 ?k5 ?a6 ?l6 ?c6 ?k6 ?a7 ?l7 ?c7 ?k7 ?a8 ?l8 ?c8 ?k8 ?a9 ?l9 ?c9 ?k9 ?a10 ?l10 ?c10 ?k10 ?a11 ?l11 ?c11 ?k11 ?a12 ?l12 ?c12 ?k12 ?a13 ?l13 ?c13 ?k13 ?a14 ?l14 ?c14 ?k14 ?a15 ?l15 ?c15 ?k15 ?a16 ?l16 ?c16 ?k16 ?a17 ?l17 ?c17 ?k17 ?z_ValueError ?z_bool ?z_int ?z_isinstance ?z_len ?z_list ?z_max ?z_range ?z_sorted ?z_sum ?z_zip ?ePurseError ?eNoGift ?eUnlike ?eGap ?eNoText ?xN ?kN ?bN ?tN ?q1PurseError ?q2PurseError ?q3PurseError ?q4PurseError ?q1Gap ?q2Gap ?q3Gap ?q4Gap ?q1NoGift ?q2NoGift ?q3NoGift ?q4NoGift ?q1NoText ?q2NoText ?q3NoText ?q4NoText ?q2Unlike ?q4Unlike ?ga ?gg ?hN ?gc ?gs ?gt ?mo ?kitValueError
    (case a1 => k_is)
    (case l1 => k_is)
    (case c1 => k_is)
    (case k1 => k_is)
    (case a2 => k_is)
    (case l2 => k_is)
    (case c2 => k_is)
    (case k2 => k_is)
    (case a3 => k_is)
    (case l3 => k_is)
    (case c3 => k_is)
    (case k3 => k_is)
    (case a4 => k_is)
    (case l4 => k_is)
    (case c4 => k_is)
    (case k4 => k_is)
    (case a5 => k_is)
    (case l5 => k_is)
    (case c5 => k_is)
    (case k5 => k_is)
    (case a6 => k_is)
    (case l6 => k_is)
    (case c6 => k_is)
    (case k6 => k_is)
    (case a7 => k_is)
    (case l7 => k_is)
    (case c7 => k_is)
    (case k7 => k_is)
    (case a8 => k_is)
    (case l8 => k_is)
    (case c8 => k_is)
    (case k8 => k_is)
    (case a9 => k_is)
    (case l9 => k_is)
    (case c9 => k_is)
    (case k9 => k_is)
    (case a10 => k_is)
    (case l10 => k_is)
    (case c10 => k_is)
    (case k10 => k_is)
    (case a11 => k_is)
    (case l11 => k_is)
    (case c11 => k_is)
    (case k11 => k_is)
    (case a12 => k_is)
    (case l12 => k_is)
    (case c12 => k_is)
    (case k12 => k_is)
    (case a13 => k_is)
    (case l13 => k_is)
    (case c13 => k_is)
    (case k13 => k_is)
    (case a14 => k_is)
    (case l14 => k_is)
    (case c14 => k_is)
    (case k14 => k_is)
    (case a15 => k_is)
    (case l15 => k_is)
    (case c15 => k_is)
    (case k15 => k_is)
    (case a16 => k_is)
    (case l16 => k_is)
    (case c16 => k_is)
    (case k16 => k_is)
    (case a17 => k_is)
    (case l17 => k_is)
    (case c17 => k_is)
    (case k17 => k_is)
    (case z_ValueError => k_is)
    (case z_bool => k_is)
    (case z_int => k_is)
    (case z_isinstance => k_is)
    (case z_len => k_is)
    (case z_list => k_is)
    (case z_max => k_is)
    (case z_range => k_is)
    (case z_sorted => k_is)
    (case z_sum => k_is)
    (case z_zip => k_is)
    (case ePurseError => k_is)
    (case eNoGift => k_is)
    (case eUnlike => k_is)
    (case eGap => k_is)
    (case eNoText => k_is)
    (case xN => k_exc)
    (case kN => k_is)
    (case bN => k_is)
    (case tN => k_is)
    (case q1PurseError => k_is)
    (case q2PurseError => k_is)
    (case q3PurseError => k_is)
    (case q4PurseError => first | k_is | rfl)
    (case q1Gap => k_is)
    (case q2Gap => k_is)
    (case q3Gap => k_is)
    (case q4Gap => first | k_is | rfl)
    (case q1NoGift => k_is)
    (case q2NoGift => k_is)
    (case q3NoGift => k_is)
    (case q4NoGift => first | k_is | rfl)
    (case q1NoText => k_is)
    (case q2NoText => k_is)
    (case q3NoText => k_is)
    (case q4NoText => first | k_is | rfl)
    (case q2Unlike => k_is)
    (case q4Unlike => first | k_is | rfl)
    (case ga => k_is)
    (case gg => k_is)
    (case hN => k_is)
    (case gc => k_is)
    (case gs => first | k_is | rfl)
    (case gt => first | k_is | rfl)
    (case mo => k_is)
    (case kitValueError => first | k_is | rfl)

