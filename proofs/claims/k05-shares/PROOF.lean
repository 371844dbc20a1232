import PyProof.Rows.All
import Wide.All
import OpenK.AllK
import Wide.FinOn
import HandS.ForMost
import HandS.ForExc
import HandS.Evl
import HandS.EndBits
import HandS.WideBits
import HandS.SortKw
import HandS.SortInts
import HandS.IsInst
import HandS.Conv
import HandS.Codes
import HandS.Style
import HandS.Zip
import HandS.More
import HandS.ExcIs
import HandS.TryMany
import HandS.RevTup
import HandS.Rev
import PySem.Challenge.RW_pursewise_k05_shares
set_option Elab.async false
set_option linter.all false
set_option maxRecDepth 100000
set_option maxHeartbeats 4000000
/-! Px: a small calculus of our own over HandS: what a reading does from a heap that may have grown (Kc), told by the smallest heap that matters. -/
namespace Px
open PySem PySem.Spec PyProof.Rows L2 Evl

/-! ### heaps -/
theorem Ex.updm {H H1 : Hp} {l : Addr} {o : HO} (e : Ex H H1) : Ex (upd H l o) (upd H1 l o) := fun a u h => by
  by_cases ha : a = l
  · subst ha
    rw [upd_same] at h ⊢
    exact h
  · rw [upd_ne ha] at h ⊢
    exact e a u h
theorem Ex.put {H H1 : Hp} {l : Addr} {o : HO} (e : Ex H H1) (h : H1 l = some o) : Ex (upd H l o) H1 := fun a u q => by
  by_cases ha : a = l
  · subst ha
    rw [upd_same] at q
    rw [h]
    exact q
  · rw [upd_ne ha] at q
    exact e a u q
theorem sq_up {K : PySem.W.Frag} {H : Hp} {a p : Addr} {xs : List V} {o : HO} (h : SqL K H a xs) (hp : H p = none) : SqL K (upd H p o) a xs := ex_l (Ex.new hp) h
/-- an object that stands, behind a new one at p -/
theorem at_up {H : Hp} {a p : Addr} {o u : HO} (h : H a = some u) (hp : H p = none) : upd H p o a = some u := by
  rw [upd_ne (ne_of_none h hp)]
  exact h
theorem none_of_up {H : Hp} {q p : Addr} {o : HO} (h : upd H p o q = none) : H q = none ∧ q ≠ p := by
  by_cases e : q = p
  · subst e
    rw [upd_same] at h
    cases h
  · rw [upd_ne e] at h
    exact ⟨h, e⟩

/-! ### a def of the module as its callers use it -/
structure Cl (P : Program) (w : World) (K : PySem.W.Frag) (mg : Str → Option Value) (base : Heap) (CX : CXT) (k : Nat) (x : Str) (f : Addr) (fd : FuncData) (ps : List Str) (sp : Sp) : Prop where
  ok : FnOk P w K mg base CX k f fd ps sp
  gl : mg x = some (.ref f)
  kp : PySem.W.keepIn K (.ref f) = true
  bd : Binds K fd ps []

/-! ### sizes of whole numbers: below 2 ^ n in size -/
def Bd (n : Nat) (i : Int) : Prop := i.natAbs < 2 ^ n
theorem Bd.mono {n m : Nat} {i : Int} (h : Bd n i) (k : n ≤ m) : Bd m i := Nat.lt_of_lt_of_le h (Nat.pow_le_pow_right (by decide) k)
theorem Bd.add {n m : Nat} {i j : Int} (h : Bd n i) (k : Bd m j) : Bd (max n m + 1) (i + j) := by
  have h1 : i.natAbs < 2 ^ max n m := h.mono (Nat.le_max_left _ _)
  have h2 : j.natAbs < 2 ^ max n m := k.mono (Nat.le_max_right _ _)
  unfold Bd
  rw [Nat.pow_succ]
  omega
theorem Bd.sub {n m : Nat} {i j : Int} (h : Bd n i) (k : Bd m j) : Bd (max n m + 1) (i - j) := by
  have h1 : i.natAbs < 2 ^ max n m := h.mono (Nat.le_max_left _ _)
  have h2 : j.natAbs < 2 ^ max n m := k.mono (Nat.le_max_right _ _)
  unfold Bd
  rw [Nat.pow_succ]
  omega
theorem Bd.mul {n m : Nat} {i j : Int} (h : Bd n i) (k : Bd m j) : Bd (n + m) (i * j) := by
  unfold Bd at *
  rw [Int.natAbs_mul, Nat.pow_add]
  exact Nat.mul_lt_mul'' h k
theorem Bd.mod {n : Nat} {i j : Int} (k : Bd n j) (h : 0 < j) : Bd n (i % j) := by
  have h1 := Int.emod_nonneg i (show j ≠ 0 by omega)
  have h2 := Int.emod_lt_of_pos i h
  unfold Bd at k ⊢
  omega
theorem Bd.div {n : Nat} {i j : Int} (h : Bd n i) : Bd n (i / j) := Nat.lt_of_le_of_lt (Int.natAbs_ediv_le_natAbs i j) h
theorem Bd.mulX {n m : Nat} {i j : Int} (h : Bd n i) (k : Bd m j) (hl : n + m ≤ 134217728) : CMulX i j := mulx_ok h k hl
theorem Bd.bits {n : Nat} {i : Int} (h : Builtin.Int.intBits i ≤ n) : Bd n i := by
  unfold Bd
  unfold Builtin.Int.intBits at h
  split at h
  · rename_i z
    have z2 : i = 0 := by simpa using z
    rw [z2]
    exact Nat.pow_pos (by decide)
  · have h2 : i.natAbs < 2 ^ (i.natAbs.log2 + 1) := Nat.lt_log2_self
    exact Nat.lt_of_lt_of_le h2 (Nat.pow_le_pow_right (by decide) h)
theorem Bd.le {n : Nat} {i j : Int} (h : i.natAbs ≤ j.natAbs) (k : Bd n j) : Bd n i := Nat.lt_of_le_of_lt h k
theorem bd_lit (i : Int) : Bd (i.natAbs.log2 + 1) i := Nat.lt_log2_self
theorem Bd.ite {n : Nat} {c : Prop} [Decidable c] {i j : Int} (h : Bd n i) (k : Bd n j) : Bd n (if c then i else j) := by
  split
  · exact h
  · exact k

/-! ### rules that name the written part K by itself (so that a comprehension's element can bear them) -/
section
variable {X : Cx} {K : PySem.W.Frag}
theorem ixl (h : X.K = K := by rfl) : IxR X (rIxL K) := h ▸ ix_list
theorem ixt (h : X.K = K := by rfl) : IxR X (rIxT K) := h ▸ ix_tup
theorem sll (h : X.K = K := by rfl) : SlR X (rSlL K) := h ▸ sl_list
theorem slt (h : X.K = K := by rfl) : SlR X (rSlT K) := h ▸ sl_tup
def rLn (K : PySem.W.Frag) : List V → Hp → VK → Prop := fun xs H Q => ∃ p ys, xs = [.ref p] ∧ (SqL K H p ys ∨ SqT K H p ys) ∧ Q (.int ys.length) H
theorem bLen (h : X.K = K := by rfl) : CallR X (.builtin "len") (rLn K) := h ▸ call_len_seq
def rLs (K : PySem.W.Frag) : List V → Hp → VK → Prop := fun xs H Q => ∃ p ys, xs = [.ref p] ∧ (SqL K H p ys ∨ SqT K H p ys) ∧ ∀ l, H l = none → Q (.ref l) (upd H l (.lst ys))
theorem bList (h : X.K = K := by rfl) : CallR X (.type "list") (rLs K) := h ▸ call_list_of
theorem bSum (hc : X.calm = true) (h : X.K = K := by rfl) : CallR X (.builtin "sum") (rSum K) := h ▸ cr_sum hc
theorem bMin (hc : X.calm = true) (h : X.K = K := by rfl) : CallR X (.builtin "min") (rMin K) := h ▸ cr_min hc
theorem bMax (hc : X.calm = true) (h : X.K = K := by rfl) : CallR X (.builtin "max") (rMax K) := h ▸ cr_max hc
theorem bIsi (h : X.K = K := by rfl) : CallR X (.builtin "isinstance") (rIsi K) := h ▸ call_isi
theorem bSrt (h : X.K = K := by rfl) : CallR X (.builtin "sorted") (rSortedI K) := h ▸ cr_sortedI
theorem bSrtR (h : X.K = K := by rfl) : CallRK X (.builtin "sorted") [Str.ofString "reverse"] (rSortedKw K true [.bl true]) := h ▸ cr_sortedRev
theorem oEqD (hu : X.A.units + 64 < cLine) (h : X.K = K := by rfl) : OpR X (compareOp .Eq) (rEqD K) := h ▸ op_eqD hu
theorem oNeD (hu : X.A.units + 64 < cLine) (h : X.K = K := by rfl) : OpR X (compareOp .NotEq) (rNeD K) := h ▸ op_neD hu
theorem piL {tg l : Expr} {tl : TE} (hl : PE X l tl) (h : X.K = K := by rfl) : PI X tg l (iList K tl) := h ▸ pi_list hl
theorem piT {tg l : Expr} {tl : TE} (hl : PE X l tl) (h : X.K = K := by rfl) : PI X tg l (iTup K tl) := h ▸ pi_tup hl
theorem piZ {e e2 : Expr} {ta : TA} {p pos tpos : Pos} {elts : List Expr} {kk : Nat} (hg : Gl X "zip") (hm : X.mg "zip" = none) (ha : PA X [e, e2] ta) (h : X.K = K := by rfl)
    (hs : starEach [e, e2] X.env = (false, eval e X.env) :: starEach [e2] X.env := by rfl) (hpl : (backTo pos (starEach [e2] X.env)).any (·.1) = false := by rfl) :
    PI X (.Tuple elts kk tpos) (.Call (.Name "zip" p) [e, e2] [] pos) (iZip K ta) := h ▸ pi_zip hg hm ha hs hpl
theorem peBm {o e : Expr} {es : List Expr} {to : TE} {t : TA} {name : Str} {apos cpos : Pos} {T id : String} {r : V → List V → Hp → VK → Prop} (pa : PlainAttrs T) (slot : Slot T name id) (hty : typeOf (.builtin id) = pure (.type "method_descriptor")) (hm : MtR X id r) (ho : PE X o to) (ha : PA X (e :: es) t) (h : X.K = K := by rfl)
    (hbase : attributeBase o name X.env (eval o X.env) = eval o X.env := by rfl) (hline : (apos.endLine == cpos.line) = true := by rfl)
    (hs : starEach (e :: es) X.env = (false, eval e X.env) :: starEach es X.env := by rfl)
    (hfew : ((((backTo cpos (starEach (e :: es) X.env)).all fun x => !x.1) && (backToKw cpos (keywordEach [] X.env)).all fun x => x.1.isSome) && decide (((e :: es).length + ([] : List Keyword).length + if ([] : List Keyword).isEmpty then 0 else 1) < 30)) = true := by rfl)
    (hpl : (backTo cpos (starEach es X.env)).any (·.1) = false := by rfl) : PE X (.Call (.Attribute o name apos) (e :: es) [] cpos) (tBM K T r to t) := h ▸ pe_bm pa slot hty hm ho ha hbase hfew hline hs hpl
theorem peBm0 {o : Expr} {to : TE} {name : Str} {apos cpos : Pos} {T id : String} {r : V → List V → Hp → VK → Prop} (pa : PlainAttrs T) (slot : Slot T name id) (hty : typeOf (.builtin id) = pure (.type "method_descriptor")) (hm : MtR X id r) (ho : PE X o to) (h : X.K = K := by rfl)
    (hbase : attributeBase o name X.env (eval o X.env) = eval o X.env := by rfl) (hline : (apos.endLine == cpos.line) = true := by rfl) : PE X (.Call (.Attribute o name apos) [] [] cpos) (tBM0 K T r to) := h ▸ pe_bm0 pa slot hty hm ho hbase hline
theorem pgT {es : List Expr} {k : Nat} {pos : Pos} {t : TGs} {n : Nat} (hc : X.calm = true) (hh : PGs X es t) (h : X.K = K := by rfl)
    (hn : (assignEach es X.env).length = n := by rfl) (hst : (assignEach es X.env).findIdx? (·.1) = none := by rfl) : PG X (.Tuple es k pos) (gTup K n t) := h ▸ pg_tup hc hh hn hst
end

/-! ### the calculus -/
def Kc {α : Type} (m : Hp → (α → Hp → Prop) → Prop) (H : Hp) (P : α → Hp → Prop) : Prop := ∀ H1, Ex H H1 → ∀ Q : α → Hp → Prop, (∀ v H2, (∃ Hx, Ex Hx H2 ∧ P v Hx) → Q v H2) → m H1 Q
theorem kc_pure {α : Type} {v : α} {H : Hp} {P : α → Hp → Prop} (h : P v H) : Kc (fun H Q => Q v H) H P := fun H1 e _ k => k v H1 ⟨H, e, h⟩
theorem kc_bind {α β : Type} {m : Hp → (α → Hp → Prop) → Prop} {f : α → Hp → (β → Hp → Prop) → Prop} {H : Hp} {P : β → Hp → Prop} (h : Kc m H fun v Hx => Kc (f v) Hx P) : Kc (fun H Q => m H fun v H1 => f v H1 Q) H P := fun H1 e Q k =>
  h H1 e _ fun v H2 ⟨_, ex, hf⟩ => hf H2 ex Q k
theorem Kc.mono {α : Type} {m : Hp → (α → Hp → Prop) → Prop} {H H' : Hp} {P : α → Hp → Prop} (e : Ex H H') (h : Kc m H P) : Kc m H' P := fun H1 a Q k => h H1 (e.trans a) Q k
theorem Kc.imp {α : Type} {m : Hp → (α → Hp → Prop) → Prop} {H : Hp} {P P' : α → Hp → Prop} (h : Kc m H P) (i : ∀ v Hx, P v Hx → P' v Hx) : Kc m H P' := fun H1 a Q k => h H1 a Q fun v H2 ⟨Hx, ex, p⟩ => k v H2 ⟨Hx, ex, i v Hx p⟩
abbrev EvK (te : TE) (σ : L2.St) (H : Hp) (P : V → Hp → Prop) : Prop := Kc (te σ) H P
abbrev EvAK (ta : TA) (σ : L2.St) (H : Hp) (P : List V → Hp → Prop) : Prop := Kc (ta σ) H P
abbrev EvTK (tt : TT) (σ : L2.St) (H : Hp) (P : Bool → Hp → Prop) : Prop := Kc (tt σ) H P
abbrev EvOK (to : TO) (σ : L2.St) (H : Hp) (P : Option Int → Hp → Prop) : Prop := Kc (to σ) H P
abbrev RK (r : R2) (x y : V) (H : Hp) (P : V → Hp → Prop) : Prop := Kc (r x y) H P
abbrev CK (r : List V → Hp → VK → Prop) (vs : List V) (H : Hp) (P : V → Hp → Prop) : Prop := Kc (r vs) H P
abbrev MK (r : V → List V → Hp → VK → Prop) (x : V) (vs : List V) (H : Hp) (P : V → Hp → Prop) : Prop := Kc (r x vs) H P
def SpK (sp : Sp) (vs : List V) (H : Hp) (P : V → Hp → Prop) : Prop := ∀ E : XK, Kc (fun H Q => sp vs H Q E) H P
def Go (t : TS) (D : Ends) (σ : L2.St) (H : Hp) : Prop := ∀ H1, Ex H H1 → t D σ H1
/-- what is wished of a value at a heap that may have grown -/
def KQ (Q : VK) (v : V) (Hx : Hp) : Prop := ∀ H1, Ex Hx H1 → Q v H1
theorem KQ.up {Q : VK} {v : V} {H H' : Hp} (h : KQ Q v H) (e : Ex H H') : KQ Q v H' := fun H1 a => h H1 (e.trans a)
section
variable {K : PySem.W.Frag} {σ : L2.St} {H H' : Hp} {ta tb tc te tx : TE} {t u : TT} {x y z v : V} {r r' : R2} {P : V → Hp → Prop} {D : Ends}

/-! ### expressions -/
theorem k_var {i : Nat} (h : σ[i]? = some (some v)) (hp : P v H) : EvK (tVar i) σ H P := fun H1 e _ k => ⟨v, h, k v H1 ⟨H, e, hp⟩⟩
theorem k_c (hp : P v H) : EvK (tC v) σ H P := kc_pure hp
theorem k_op (h : EvK ta σ H fun x Hx => EvK tb σ Hx fun y Hy => RK r x y Hy P) : EvK (tOp r ta tb) σ H P := kc_bind (f := fun x H1 Q => tb σ H1 fun y H2 => r x y H2 Q) (h.imp fun _ _ h2 => kc_bind h2)
theorem k_un {ru : V → Hp → VK → Prop} (h : EvK ta σ H fun x Hx => Kc (ru x) Hx P) : EvK (tUn ru ta) σ H P := kc_bind (f := fun x H1 Q => ru x H1 Q) h
theorem k_cb {rc : List V → Hp → VK → Prop} {tl : TA} (h : EvAK tl σ H fun vs Hx => CK rc vs Hx P) : EvK (tCB rc tl) σ H P := kc_bind (f := fun vs H1 Q => rc vs H1 Q) h
theorem k_ckw {rc : List V → List V → Hp → VK → Prop} {tl tk : TA} (h : EvAK tl σ H fun vs Hx => EvAK tk σ Hx fun zs Hz => Kc (rc vs zs) Hz P) : EvK (tCKw rc tl tk) σ H P := kc_bind (f := fun vs H1 Q => tk σ H1 fun zs H2 => rc vs zs H2 Q) (h.imp fun _ _ h2 => kc_bind h2)
theorem k_call {sp : Sp} {dvs : List V} {E : XK} {tl : TA} (h : EvAK tl σ H fun vs Hx => SpK sp (vs ++ dvs) Hx P) : EvK (tCall sp dvs E tl) σ H P := kc_bind (f := fun vs H1 Q => sp (vs ++ dvs) H1 Q E) (h.imp fun _ _ h2 => h2 E)
theorem k_nil {PA : List V → Hp → Prop} (h : PA [] H) : EvAK tNil σ H PA := kc_pure h
theorem k_cons {tr : TA} {PA : List V → Hp → Prop} (h : EvK ta σ H fun x Hx => EvAK tr σ Hx fun vs Hy => PA (x :: vs) Hy) : EvAK (tCons ta tr) σ H PA :=
  kc_bind (f := fun x H1 Q => tr σ H1 fun xs H2 => Q (x :: xs) H2) (h.imp fun x _ h2 => kc_bind (f := fun xs H2 Q => Q (x :: xs) H2) (h2.imp fun _ _ h3 => kc_pure h3))
theorem k_tup {tl : TA} (h : EvAK tl σ H fun vs Hx => vs.length ≤ 100000 ∧ ∀ p, Hx p = none → P (.ref p) (upd Hx p (.tup vs))) : EvK (tTup tl) σ H P :=
  fun H1 e Q k => h H1 e _ fun vs H2 ⟨Hx, ex, hl, hp⟩ => ⟨sz_of hl, fun p np => k _ _ ⟨_, Ex.updm ex, hp p (fresh_back ex np)⟩⟩
theorem k_lst {tl : TA} (h : EvAK tl σ H fun vs Hx => vs.length ≤ 100000 ∧ ∀ p, Hx p = none → P (.ref p) (upd Hx p (.lst vs))) : EvK (tLst tl) σ H P :=
  fun H1 e Q k => h H1 e _ fun vs H2 ⟨Hx, ex, hl, hp⟩ => ⟨sz_of hl, fun p np => k _ _ ⟨_, Ex.updm ex, hp p (fresh_back ex np)⟩⟩
theorem k_chain (h : EvK ta σ H fun x Hx => EvK tb σ Hx fun y Hy => RK r x y Hy fun z Hz => ∃ b, z = .bl b ∧ (b = true → EvK tc σ Hz fun w Hw => RK r' y w Hw P) ∧ (b = false → P (.bl false) Hz)) : EvK (tChain r r' ta tb tc) σ H P :=
  fun H1 e Q k => h H1 e _ fun x H2 ⟨Hx, ex, h2⟩ => h2 H2 ex _ fun y H3 ⟨Hy, ey, h3⟩ => h3 H3 ey _ fun z H4 ⟨Hz, ez, b, eb, ht, hf⟩ => ⟨b, eb, by
    cases b with
    | true =>
      rw [if_pos rfl]
      exact ht rfl H4 ez _ fun w H5 ⟨Hw, ew, h5⟩ => h5 H5 ew Q k
    | false =>
      rw [if_neg Bool.false_ne_true]
      exact k _ _ ⟨Hz, ez, hf rfl⟩⟩
theorem k_andV (h : EvK ta σ H fun x Hx => ∃ b, x = .bl b ∧ (b = true → EvK tb σ Hx P) ∧ (b = false → P (.bl false) Hx)) : EvK (tAndV ta tb) σ H P :=
  fun H1 e Q k => h H1 e _ fun x H2 ⟨Hx, ex, b, eb, ht, hf⟩ => ⟨b, eb, by
    cases b with
    | true =>
      rw [if_pos rfl]
      exact ht rfl H2 ex Q k
    | false =>
      rw [if_neg Bool.false_ne_true]
      exact k _ _ ⟨Hx, ex, hf rfl⟩⟩
theorem k_orV (h : EvK ta σ H fun x Hx => ∃ b, x = .bl b ∧ (b = true → P (.bl true) Hx) ∧ (b = false → EvK tb σ Hx P)) : EvK (tOrV ta tb) σ H P :=
  fun H1 e Q k => h H1 e _ fun x H2 ⟨Hx, ex, b, eb, ht, hf⟩ => ⟨b, eb, by
    cases b with
    | true =>
      rw [if_pos rfl]
      exact k _ _ ⟨Hx, ex, ht rfl⟩
    | false =>
      rw [if_neg Bool.false_ne_true]
      exact hf rfl H2 ex Q k⟩
theorem k_notV (h : EvK ta σ H fun x Hx => ∃ b, x = .bl b ∧ P (.bl (!b)) Hx) : EvK (tNotV ta) σ H P :=
  fun H1 e Q k => h H1 e _ fun x H2 ⟨Hx, ex, b, eb, hp⟩ => ⟨b, eb, k _ _ ⟨Hx, ex, hp⟩⟩
theorem k_sl {rs : V → Option Int → Option Int → Hp → VK → Prop} {tl th : TO} (h : EvK te σ H fun x Hx => EvOK tl σ Hx fun l Hl => EvOK th σ Hl fun u Hu => Kc (rs x l u) Hu P) : EvK (tSl rs te tl th) σ H P :=
  fun H1 e Q k => h H1 e _ fun x H2 ⟨_, ex, h2⟩ => h2 H2 ex _ fun l H3 ⟨_, el, h3⟩ => h3 H3 el _ fun u H4 ⟨_, eu, h4⟩ => h4 H4 eu Q k
theorem k_nopart {PO : Option Int → Hp → Prop} (h : PO none H) : EvOK tNoPart σ H PO := kc_pure h
theorem k_part {PO : Option Int → Hp → Prop} (h : EvK te σ H fun x Hx => ∃ i, x = .int i ∧ PO (some i) Hx) : EvOK (tPart te) σ H PO :=
  fun H1 e Q k => h H1 e _ fun x H2 ⟨Hx, ex, i, ei, hp⟩ => ⟨i, ei, k _ _ ⟨Hx, ex, hp⟩⟩
theorem k_bm {T : String} {rm : V → List V → Hp → VK → Prop} {tl : TA} (h : EvK ta σ H fun x Hx => (∀ H1, Ex Hx H1 → tyV K T x H1) ∧ EvAK tl σ Hx fun vs Hy => MK rm x vs Hy P) : EvK (tBM K T rm ta tl) σ H P :=
  fun H1 e Q k => h H1 e _ fun x H2 ⟨Hx, ex, hty, h2⟩ => ⟨hty H2 ex, h2 H2 ex _ fun vs H3 ⟨Hy, ey, h3⟩ => h3 H3 ey Q k⟩
theorem k_bm0 {T : String} {rm : V → List V → Hp → VK → Prop} (h : EvK ta σ H fun x Hx => (∀ H1, Ex Hx H1 → tyV K T x H1) ∧ MK rm x [] Hx P) : EvK (tBM0 K T rm ta) σ H P :=
  fun H1 e Q k => h H1 e _ fun x H2 ⟨Hx, ex, hty, h2⟩ => ⟨hty H2 ex, h2 H2 ex Q k⟩
theorem tyl {a : Addr} {xs : List V} (h : SqL K H a xs) : ∀ H1, Ex H H1 → tyV K "list" (.ref a) H1 := fun H1 e => Or.inl ⟨rfl, _, ex_l e h⟩

/-! ### tests -/
theorem kt_test {PB : Bool → Hp → Prop} (h : EvK te σ H fun x Hx => ∃ b, x = .bl b ∧ PB b Hx) : EvTK (tTest te) σ H PB := fun H1 e Q k => h H1 e _ fun x H2 ⟨Hx, ex, b, eb, hp⟩ => ⟨b, eb, k _ _ ⟨Hx, ex, hp⟩⟩
theorem kt_B {PB : Bool → Hp → Prop} (h : EvK te σ H fun x Hx => ∃ b, x = .bl b ∧ PB b Hx) : EvTK (tB te) σ H PB := fun H1 e Q k => h H1 e _ fun x H2 ⟨Hx, ex, b, eb, hp⟩ => ⟨b, eb, k _ _ ⟨Hx, ex, hp⟩⟩
theorem kt_yes {PB : Bool → Hp → Prop} (h : PB true H) : EvTK tYes σ H PB := kc_pure h
theorem kt_and {PB : Bool → Hp → Prop} (h : EvTK t σ H fun b Hx => (b = true → EvTK u σ Hx PB) ∧ (b = false → PB false Hx)) : EvTK (tAnd t u) σ H PB := fun H1 e Q k => h H1 e _ fun b H2 ⟨Hx, ex, ht, hf⟩ => by
  cases b with
  | true =>
    rw [if_pos rfl]
    exact ht rfl H2 ex Q k
  | false =>
    rw [if_neg Bool.false_ne_true]
    exact k _ _ ⟨Hx, ex, hf rfl⟩
theorem kt_or {PB : Bool → Hp → Prop} (h : EvTK t σ H fun b Hx => (b = true → PB true Hx) ∧ (b = false → EvTK u σ Hx PB)) : EvTK (tOr t u) σ H PB := fun H1 e Q k => h H1 e _ fun b H2 ⟨Hx, ex, ht, hf⟩ => by
  cases b with
  | true =>
    rw [if_pos rfl]
    exact k _ _ ⟨Hx, ex, ht rfl⟩
  | false =>
    rw [if_neg Bool.false_ne_true]
    exact hf rfl H2 ex Q k
theorem kt_not {PB : Bool → Hp → Prop} (h : EvTK t σ H fun b Hx => PB (!b) Hx) : EvTK (tNot t) σ H PB := fun H1 e Q k => h H1 e _ fun b H2 ⟨Hx, ex, hp⟩ => k _ _ ⟨Hx, ex, hp⟩

/-! ### operations on values -/
theorem r_I0 {g : Int → Int → V} {i j : Int} (h : P (g i j) H) : RK (rI0 g) (.int i) (.int j) H P := fun H1 e Q k => ⟨i, j, rfl, rfl, k _ _ ⟨H, e, h⟩⟩
theorem r_I {C : Int → Int → Prop} {g : Int → Int → V} {i j : Int} (h : C i j ∧ P (g i j) H) : RK (rI C g) (.int i) (.int j) H P := fun H1 e Q k => ⟨i, j, rfl, rfl, h.1, k _ _ ⟨H, e, h.2⟩⟩
theorem r_I' {C : Int → Int → Prop} {g : Int → Int → V} {i j : Int} (h : P (g i j) H) (hc : C i j) : RK (rI C g) (.int i) (.int j) H P := r_I ⟨hc, h⟩
theorem r_eq (h : scal x y = true ∧ P (.bl (decide (x = y))) H) : RK rEq x y H P := fun H1 e Q k => ⟨h.1, k _ _ ⟨H, e, h.2⟩⟩
theorem r_ne (h : scal x y = true ∧ P (.bl (!decide (x = y))) H) : RK rNe x y H P := fun H1 e Q k => ⟨h.1, k _ _ ⟨H, e, h.2⟩⟩
theorem r_eqI {i j : Int} (h : P (.bl (decide (i = j))) H) : RK rEq (.int i) (.int j) H P := r_eq ⟨rfl, by
  have e : decide (V.int i = V.int j) = decide (i = j) := by
    by_cases c : i = j
    · subst c
      rw [decide_eq_true rfl, decide_eq_true rfl]
    · rw [decide_eq_false c, decide_eq_false fun z => c (V.int.inj z)]
  rw [e]
  exact h⟩
theorem r_neI {i j : Int} (h : P (.bl (!decide (i = j))) H) : RK rNe (.int i) (.int j) H P := r_ne ⟨rfl, by
  have e : decide (V.int i = V.int j) = decide (i = j) := by
    by_cases c : i = j
    · subst c
      rw [decide_eq_true rfl, decide_eq_true rfl]
    · rw [decide_eq_false c, decide_eq_false fun z => c (V.int.inj z)]
  rw [e]
  exact h⟩
theorem r_neg {i : Int} (h : P (.int (-i)) H) : Kc (rU (fun i => V.int (-i)) (.int i)) H P := fun H1 e Q k => ⟨i, rfl, k _ _ ⟨H, e, h⟩⟩
theorem r_ixL {p : Addr} {xs : List V} {i : Int} (h : SqL K H p xs) (ha : atI xs i = some v) (hp : P v H) : RK (rIxL K) (.ref p) (.int i) H P := fun H1 e Q k => ⟨p, xs, i, v, rfl, rfl, ex_l e h, ha, k _ _ ⟨H, e, hp⟩⟩
theorem r_ixT {p : Addr} {xs : List V} {i : Int} (h : SqT K H p xs) (ha : atI xs i = some v) (hp : P v H) : RK (rIxT K) (.ref p) (.int i) H P := fun H1 e Q k => ⟨p, xs, i, v, rfl, rfl, ex_t e h, ha, k _ _ ⟨H, e, hp⟩⟩
theorem r_slL {p : Addr} {xs : List V} {lo hi : Option Int} (h : SqL K H p xs) (hp : ∀ q, H q = none → P (.ref q) (upd H q (.lst (cutV xs lo hi)))) : Kc (rSlL K (.ref p) lo hi) H P := fun H1 e Q k => ⟨p, xs, rfl, ex_l e h, fun q nq => k _ _ ⟨_, Ex.updm e, hp q (fresh_back e nq)⟩⟩
theorem r_isN (h : P (.bl (decide (x = .non))) H) : RK (fun x y H Q => y = .non ∧ Q (.bl (decide (x = .non))) H) x .non H P := fun H1 e Q k => ⟨rfl, k _ _ ⟨H, e, h⟩⟩
theorem r_notN (h : P (.bl (!decide (x = .non))) H) : RK (fun x y H Q => y = .non ∧ Q (.bl (!decide (x = .non))) H) x .non H P := fun H1 e Q k => ⟨rfl, k _ _ ⟨H, e, h⟩⟩
theorem r_isB {a b : Bool} (h : P (.bl (decide (a = b))) H) : RK rIsB (.bl a) (.bl b) H P := fun H1 e Q k => ⟨a, b, rfl, rfl, k _ _ ⟨H, e, h⟩⟩
mutual
theorem dp_ex {H H1 : Hp} (e : Ex H H1) : ∀ {v : V} {d : PyData}, Dp K H v d → Dp K H1 v d
  | _, _, .non => .non
  | _, _, .bl b => .bl b
  | _, _, .int i => .int i
  | _, _, .str x => .str x
  | _, _, .lst h k => .lst (ex_l e h) (dpa_ex e k)
  | _, _, .tup h k => .tup (ex_t e h) (dpa_ex e k)
theorem dpa_ex {H H1 : Hp} (e : Ex H H1) : ∀ {vs : List V} {ds : List PyData}, DpAll K H vs ds → DpAll K H1 vs ds
  | _, _, .nil => .nil
  | _, _, .cons h k => .cons (dp_ex e h) (dpa_ex e k)
end
theorem r_eqD {d d' : PyData} (h1 : Dp K H x d) (h2 : Dp K H y d') (s1 : SeqAt.shaped d = true) (s2 : SeqAt.shaped d' = true) (hp : P (.bl (PyData.eqv d d')) H) : RK (rEqD K) x y H P := fun H1 e Q k => ⟨d, d', dp_ex e h1, dp_ex e h2, s1, s2, k _ _ ⟨H, e, hp⟩⟩
theorem r_neD {d d' : PyData} (h1 : Dp K H x d) (h2 : Dp K H y d') (s1 : SeqAt.shaped d = true) (s2 : SeqAt.shaped d' = true) (hp : P (.bl (!PyData.eqv d d')) H) : RK (rNeD K) x y H P := fun H1 e Q k => ⟨d, d', dp_ex e h1, dp_ex e h2, s1, s2, k _ _ ⟨H, e, hp⟩⟩
theorem eqv_self {d : PyData} (h : SeqAt.shaped d = true) : PyData.eqv d d = true := SeqAt.eqv_refl d (SeqAt.canLay_of_shaped h)
/-- both the same data -/
theorem r_eqS {d : PyData} (h1 : Dp K H x d) (h2 : Dp K H y d) (s1 : SeqAt.shaped d = true) (hp : P (.bl true) H) : RK (rEqD K) x y H P := r_eqD h1 h2 s1 s1 (by rw [eqv_self s1]; exact hp)
theorem r_neS {d : PyData} (h1 : Dp K H x d) (h2 : Dp K H y d) (s1 : SeqAt.shaped d = true) (hp : P (.bl false) H) : RK (rNeD K) x y H P := r_neD h1 h2 s1 s1 (by rw [eqv_self s1]; exact hp)
theorem dpa_ints : ∀ ns : List Int, DpAll K H (ns.map V.int) (ns.map PyData.int)
  | [] => .nil
  | n :: ns => .cons (.int n) (dpa_ints ns)
theorem dp_ints {a : Addr} {ns : List Int} (h : SqL K H a (ns.map V.int)) : Dp K H (.ref a) (.list (ns.map PyData.int)) := .lst h (dpa_ints ns)
theorem lay_ints : ∀ ns : List Int, PyData.canLayAll0 (ns.map PyData.int) = true
  | [] => rfl
  | n :: ns => by
    show (PyData.canLay0 (.int n) && PyData.canLayAll0 (ns.map PyData.int)) = true
    rw [lay_ints ns]
    rfl
theorem dep_ints : ∀ ns : List Int, PyData.depthAll (ns.map PyData.int) = 0
  | [] => rfl
  | n :: ns => by
    show max (PyData.depth (.int n)) (PyData.depthAll (ns.map PyData.int)) = 0
    rw [dep_ints ns]
    rfl
theorem sh_ints (ns : List Int) : SeqAt.shaped (.list (ns.map PyData.int)) = true := by
  show (PyData.canLayAll0 (ns.map PyData.int) && decide (PyData.depthAll (ns.map PyData.int) + 1 ≤ 64)) = true
  rw [lay_ints, dep_ints]
  rfl
/-- two lists of the same whole numbers -/
theorem r_eqI2 {a b : Addr} {ns : List Int} (h1 : SqL K H a (ns.map V.int)) (h2 : SqL K H b (ns.map V.int)) (hp : P (.bl true) H) : RK (rEqD K) (.ref a) (.ref b) H P := r_eqS (dp_ints h1) (dp_ints h2) (sh_ints ns) hp
theorem r_neI2 {a b : Addr} {ns : List Int} (h1 : SqL K H a (ns.map V.int)) (h2 : SqL K H b (ns.map V.int)) (hp : P (.bl false) H) : RK (rNeD K) (.ref a) (.ref b) H P := r_neS (dp_ints h1) (dp_ints h2) (sh_ints ns) hp
theorem r_cat {l b : Addr} {xs zs : List V} (h1 : H l = some (.lst xs)) (h2 : H b = some (.lst zs)) (hz : xs.length + zs.length ≤ 100000) (hp : ∀ p, H p = none → P (.ref p) (upd H p (.lst (xs ++ zs)))) : RK rCat (.ref l) (.ref b) H P := fun H1 e Q k =>
  ⟨l, b, xs, zs, rfl, rfl, e _ _ h1, e _ _ h2, sz_of hz, fun p np => k _ _ ⟨_, Ex.updm e, hp p (fresh_back e np)⟩⟩

theorem cut_from (xs : List V) : cutV xs (some 1) none = xs.drop 1 := by
  unfold cutV
  rw [show HT.sIx xs.length 0 (some 1) = min 1 xs.length from HT.sIx_nat xs.length 0 1, HT.sIx_none]
  cases xs with
  | nil => rfl
  | cons x r =>
    rw [show min 1 (x :: r).length = 1 by
      rw [List.length_cons]
      omega]
    show (List.take ((x :: r).length - 1) r) = r
    rw [List.length_cons, Nat.add_sub_cancel]
    exact List.take_length

theorem cut_to {xs : List V} {k : Nat} (h : k ≤ xs.length) : cutV xs none (some (k : Int)) = xs.take k := by
  unfold cutV
  rw [show HT.sIx xs.length xs.length (some (k : Int)) = min k xs.length from HT.sIx_nat xs.length xs.length k, HT.sIx_none, Nat.min_eq_left h, List.drop_zero, Nat.sub_zero]

theorem cut_ints (ns : List Int) (lo hi : Option Int) : ∃ cs : List Int, cutV (ns.map V.int) lo hi = cs.map V.int ∧ (∀ z ∈ cs, z ∈ ns) ∧ cs.length ≤ ns.length := by
  unfold cutV
  rw [← List.map_drop, ← List.map_take]
  refine ⟨_, rfl, fun z hz => List.mem_of_mem_drop (List.mem_of_mem_take hz), ?_⟩
  rw [List.length_take, List.length_drop]
  omega

/-! ### calls of built-ins -/
theorem c_len {p : Addr} {xs : List V} (h : SqL K H p xs) (hp : P (.int xs.length) H) : CK (rLn K) [.ref p] H P := fun H1 e Q k => ⟨p, xs, rfl, .inl (ex_l e h), k _ _ ⟨H, e, hp⟩⟩
theorem c_lenT {p : Addr} {xs : List V} (h : SqT K H p xs) (hp : P (.int xs.length) H) : CK (rLn K) [.ref p] H P := fun H1 e Q k => ⟨p, xs, rfl, .inr (ex_t e h), k _ _ ⟨H, e, hp⟩⟩
theorem c_list {p : Addr} {xs : List V} (h : SqL K H p xs) (hp : ∀ q, H q = none → P (.ref q) (upd H q (.lst xs))) : CK (rLs K) [.ref p] H P := fun H1 e Q k => ⟨p, xs, rfl, .inl (ex_l e h), fun q nq => k _ _ ⟨_, Ex.updm e, hp q (fresh_back e nq)⟩⟩
theorem c_sum {p : Addr} {ns : List Int} (h : SqL K H p (ns.map V.int)) (hp : P (.int ns.sum) H) : CK (rSum K) [.ref p] H P := fun H1 e Q k => ⟨p, ns, rfl, ex_l e h, k _ _ ⟨H, e, hp⟩⟩
theorem c_min {p : Addr} {ns : List Int} (h : SqL K H p (ns.map V.int)) (h0 : 0 < ns.length) (hp : ∀ m, m ∈ ns → (∀ y, y ∈ ns → m ≤ y) → P (.int m) H) : CK (rMin K) [.ref p] H P := fun H1 e Q k => ⟨p, ns, rfl, ex_l e h, h0, fun m hm hl => k _ _ ⟨H, e, hp m hm hl⟩⟩
theorem c_max {p : Addr} {ns : List Int} (h : SqL K H p (ns.map V.int)) (h0 : 0 < ns.length) (hp : ∀ m, m ∈ ns → (∀ y, y ∈ ns → y ≤ m) → P (.int m) H) : CK (rMax K) [.ref p] H P := fun H1 e Q k => ⟨p, ns, rfl, ex_l e h, h0, fun m hm hl => k _ _ ⟨H, e, hp m hm hl⟩⟩
theorem c_max2 {i j : Int} (hp : P (.int (if j > i then j else i)) H) : CK (fun xs H Q => ∃ i j, xs = [.int i, .int j] ∧ Q (.int (if j > i then j else i)) H) [.int i, .int j] H P := fun H1 e Q k => ⟨i, j, rfl, k _ _ ⟨H, e, hp⟩⟩
theorem c_min2 {i j : Int} (hp : P (.int (if j < i then j else i)) H) : CK (fun xs H Q => ∃ i j, xs = [.int i, .int j] ∧ Q (.int (if j < i then j else i)) H) [.int i, .int j] H P := fun H1 e Q k => ⟨i, j, rfl, k _ _ ⟨H, e, hp⟩⟩
theorem c_intB {b : Bool} (hp : P (.int (if b then 1 else 0)) H) : CK (fun xs H Q => (∃ i, xs = [.int i] ∧ Q (.int i) H) ∨ ∃ k, xs = [.bl k] ∧ Q (.int (if k then 1 else 0)) H) [.bl b] H P := fun H1 e Q k => .inr ⟨b, rfl, k _ _ ⟨H, e, hp⟩⟩
theorem tyx_ex {H1 : Hp} (e : Ex H H1) {t : Value} (h : TyX K H x t) : TyX K H1 x t := by
  cases h with
  | base b =>
    refine .base ?_
    cases b with
    | non => exact .non
    | bl y => exact .bl y
    | int i => exact .int i
    | str y => exact .str y
    | flt y => exact .flt y
    | lst ea => exact .lst (e _ _ ea)
    | frz ea => exact .frz (e _ _ ea)
    | tup ea => exact .tup (e _ _ ea)
    | dK ea => exact .dK (e _ _ ea)
    | dT ea => exact .dT (e _ _ ea)
    | ins ea cl ha hn htk hm => exact .ins (e _ _ ea) cl ha hn htk hm
  | byt y => exact .byt y
  | set ea => exact .set (e _ _ ea)
  | kList ea c => exact .kList ea c
  | kTuple ea c => exact .kTuple ea c
  | kDict ea c => exact .kDict ea c
  | fTuple ea => exact .fTuple (e _ _ ea)
  | fDict ea => exact .fDict (e _ _ ea)
theorem c_isi {n : String} {a : String} {b : Bool} (ty : TyX K H x (.type a)) (hk : kitB a n = some b) (hp : P (.bl b) H) : CK (rIsi K) [x, .ty n] H P := fun H1 e Q k => ⟨x, .ty n, .type a, .type n, b, rfl, .ty n, tyx_ex e ty, kit_ty hk, k _ _ ⟨H, e, hp⟩⟩
theorem ty_lst {a : Addr} {xs : List V} (h : H a = some (.lst xs)) : TyX K H (.ref a) (.type "list") := .base (.lst h)
theorem ty_tup {a : Addr} {xs : List V} (h : H a = some (.tup xs)) : TyX K H (.ref a) (.type "tuple") := .base (.tup h)
theorem c_list_list {a : Addr} {xs : List V} (h : H a = some (.lst xs)) (hp : P (.bl true) H) : CK (rIsi K) [.ref a, .ty "list"] H P := c_isi (ty_lst h) (by decide +kernel) hp
theorem c_tup_tup {a : Addr} {xs : List V} (h : H a = some (.tup xs)) (hp : P (.bl true) H) : CK (rIsi K) [.ref a, .ty "tuple"] H P := c_isi (ty_tup h) (by decide +kernel) hp
theorem c_int_int {i : Int} (hp : P (.bl true) H) : CK (rIsi K) [.int i, .ty "int"] H P := c_isi (.base (.int i)) (by decide +kernel) hp
theorem c_int_bool {i : Int} (hp : P (.bl false) H) : CK (rIsi K) [.int i, .ty "bool"] H P := c_isi (.base (.int i)) (by decide +kernel) hp
theorem c_bl_bool {i : Bool} (hp : P (.bl true) H) : CK (rIsi K) [.bl i, .ty "bool"] H P := c_isi (.base (.bl i)) (by decide +kernel) hp
theorem c_str_str {i : Str} (hp : P (.bl true) H) : CK (rIsi K) [.str i, .ty "str"] H P := c_isi (.base (.str i)) (by decide +kernel) hp
theorem c_non_int (hp : P (.bl false) H) : CK (rIsi K) [.non, .ty "int"] H P := c_isi (.base .non) (by decide +kernel) hp

/-! ### methods of lists -/
theorem m_append {l : Addr} {xs : List V} (h : H l = some (.lst xs)) (hz : xs.length < 100000) (hp : P .non (upd H l (.lst (xs ++ [y])))) : MK rAppend (.ref l) [y] H P := fun H1 e Q k => ⟨l, xs, y, rfl, rfl, e _ _ h, sz_lt hz, k _ _ ⟨_, Ex.updm e, hp⟩⟩
theorem m_reverse {l : Addr} {xs : List V} (h : H l = some (.lst xs)) (hp : P .non (upd H l (.lst xs.reverse))) : MK rReverse (.ref l) [] H P := fun H1 e Q k => ⟨l, xs, rfl, rfl, e _ _ h, k _ _ ⟨_, Ex.updm e, hp⟩⟩
theorem m_clear {l : Addr} {xs : List V} (h : H l = some (.lst xs)) (hp : P .non (upd H l (.lst []))) : MK rClear (.ref l) [] H P := fun H1 e Q k => ⟨l, xs, rfl, rfl, e _ _ h, k _ _ ⟨_, Ex.updm e, hp⟩⟩

/-! ### statements -/
theorem Go.here {s : TS} (h : Go s D σ H) : s D σ H := h H (Ex.refl H)
theorem Go.mono {s : TS} (h : Go s D σ H) (e : Ex H H') : Go s D σ H' := fun H1 a => h H1 (e.trans a)
variable {s s2 w : TS}
/-- a statement ahead of w -/
theorem gs_asg {i : Nat} (h : EvK te σ H fun v Hx => Go w D (σ.set i (some v)) Hx) : Go (tSeq (tAsg te (gName i)) w) D σ H := fun H1 e => h H1 e _ fun v H2 ⟨_, ex, g⟩ => g H2 ex
theorem gs_drop (h : EvK te σ H fun _ Hx => Go w D σ Hx) : Go (tSeq (tDrop te) w) D σ H := fun H1 e => h H1 e _ fun v H2 ⟨_, ex, g⟩ => g H2 ex
theorem gs_if (h : EvTK t σ H fun b Hx => (b = true → Go s { D with nx := w D } σ Hx) ∧ (b = false → Go s2 { D with nx := w D } σ Hx)) : Go (tSeq (tIfS t s s2) w) D σ H := fun H1 e => h H1 e _ fun b H2 ⟨Hx, ex, ht, hf⟩ => by
  cases b with
  | true =>
    rw [if_pos rfl]
    exact ht rfl H2 ex
  | false =>
    rw [if_neg Bool.false_ne_true]
    exact hf rfl H2 ex
theorem gs_when (h : EvTK t σ H fun b Hx => (b = true → Go s { D with nx := w D } σ Hx) ∧ (b = false → Go w D σ Hx)) : Go (tSeq (tIfS t s tNext) w) D σ H := gs_if h
/-- the last statement of a block -/
theorem g1_asg {i : Nat} (h : EvK te σ H fun v Hx => ∀ H1, Ex Hx H1 → D.nx (σ.set i (some v)) H1) : Go (tAsg te (gName i)) D σ H := fun H1 e => h H1 e _ fun v H2 ⟨_, ex, g⟩ => g H2 ex
theorem g1_drop (h : EvK te σ H fun _ Hx => ∀ H1, Ex Hx H1 → D.nx σ H1) : Go (tDrop te) D σ H := fun H1 e => h H1 e _ fun v H2 ⟨_, ex, g⟩ => g H2 ex
theorem g1_ret (h : EvK te σ H (KQ D.rt)) : Go (tRet te) D σ H := fun H1 e => h H1 e _ fun v H2 ⟨_, ex, g⟩ => g H2 ex
theorem g1_if (h : EvTK t σ H fun b Hx => (b = true → Go s D σ Hx) ∧ (b = false → Go s2 D σ Hx)) : Go (tIfS t s s2) D σ H := fun H1 e => h H1 e _ fun b H2 ⟨Hx, ex, ht, hf⟩ => by
  cases b with
  | true =>
    rw [if_pos rfl]
    exact ht rfl H2 ex
  | false =>
    rw [if_neg Bool.false_ne_true]
    exact hf rfl H2 ex
theorem g1_next (h : ∀ H1, Ex H H1 → D.nx σ H1) : Go tNext D σ H := h
/-- the last statement of a block within a block: then w -/
theorem g2_asg {i : Nat} (h : EvK te σ H fun v Hx => Go w D (σ.set i (some v)) Hx) : Go (tAsg te (gName i)) { D with nx := w D } σ H := g1_asg h
theorem g2_drop (h : EvK te σ H fun _ Hx => Go w D σ Hx) : Go (tDrop te) { D with nx := w D } σ H := g1_drop h
theorem g2_next (h : Go w D σ H) : Go tNext { D with nx := w D } σ H := h
/-- what stands behind, shown once -/
theorem gs_cut (R : Go w D σ H) (h : Go w D σ H → Go (tSeq s w) D σ H) : Go (tSeq s w) D σ H := h R
/-- a, b = b, a -/
theorem gs_par {i j : Nat} {tl : TA} (h : EvAK tl σ H fun vs Hx => ∃ v z, vs = [v, z] ∧ Go w D ((σ.set i (some v)).set j (some z)) Hx) : Go (tSeq (tPar i j tl) w) D σ H := fun H1 e => h H1 e _ fun vs H2 ⟨_, ex, v, z, ev, g⟩ => ⟨v, z, ev, g H2 ex⟩
theorem g1_par {i j : Nat} {tl : TA} (h : EvAK tl σ H fun vs Hx => ∃ v z, vs = [v, z] ∧ ∀ H1, Ex Hx H1 → D.nx ((σ.set i (some v)).set j (some z)) H1) : Go (tPar i j tl) D σ H := fun H1 e => h H1 e _ fun vs H2 ⟨_, ex, v, z, ev, g⟩ => ⟨v, z, ev, g H2 ex⟩
theorem g2_par {i j : Nat} {tl : TA} (h : EvAK tl σ H fun vs Hx => ∃ v z, vs = [v, z] ∧ Go w D ((σ.set i (some v)).set j (some z)) Hx) : Go (tPar i j tl) { D with nx := w D } σ H := g1_par h
/-- o[i] = e -/
theorem gs_set (h : EvK te σ H fun v Hv => EvK ta σ Hv fun o Ho => EvK tb σ Ho fun i Hi => ∃ l xs n j, o = .ref l ∧ i = .int n ∧ Hi l = some (.lst xs) ∧ ixN xs.length n = some j ∧ Go w D σ (upd Hi l (.lst (xs.set j v)))) : Go (tSeq (tAsg te (gSub ta tb rSetL)) w) D σ H := fun H1 e =>
  h H1 e _ fun v H2 ⟨_, e2, h2⟩ => h2 H2 e2 _ fun o H3 ⟨_, e3, h3⟩ => h3 H3 e3 _ fun i H4 ⟨Hi, e4, l, xs, n, j, eo, ei, hl, hj, g⟩ => ⟨l, xs, n, j, eo, ei, e4 _ _ hl, hj, g _ (Ex.updm e4)⟩
theorem g1_set (h : EvK te σ H fun v Hv => EvK ta σ Hv fun o Ho => EvK tb σ Ho fun i Hi => ∃ l xs n j, o = .ref l ∧ i = .int n ∧ Hi l = some (.lst xs) ∧ ixN xs.length n = some j ∧ ∀ H1, Ex (upd Hi l (.lst (xs.set j v))) H1 → D.nx σ H1) : Go (tAsg te (gSub ta tb rSetL)) D σ H := fun H1 e =>
  h H1 e _ fun v H2 ⟨_, e2, h2⟩ => h2 H2 e2 _ fun o H3 ⟨_, e3, h3⟩ => h3 H3 e3 _ fun i H4 ⟨Hi, e4, l, xs, n, j, eo, ei, hl, hj, g⟩ => ⟨l, xs, n, j, eo, ei, e4 _ _ hl, hj, g _ (Ex.updm e4)⟩

theorem g2_set (h : EvK te σ H fun v Hv => EvK ta σ Hv fun o Ho => EvK tb σ Ho fun i Hi => ∃ l xs n j, o = .ref l ∧ i = .int n ∧ Hi l = some (.lst xs) ∧ ixN xs.length n = some j ∧ Go w D σ (upd Hi l (.lst (xs.set j v)))) : Go (tAsg te (gSub ta tb rSetL)) { D with nx := w D } σ H := g1_set h

/-! ### loops: a word (Pv) of the turn, the slots and the smallest heap -/
/-- a state that the word allows, the heap grown -/
def Lp (Pv : Nat → L2.St → Hp → Prop) (i : Nat) (σ : L2.St) (H : Hp) : Prop := ∃ Hx, Ex Hx H ∧ Pv i σ Hx
theorem gs_forL {a : Addr} {xs : List V} {j : Nat} (Pv : Nat → L2.St → Hp → Prop) (h : EvK te σ H fun v Hx => v = .ref a ∧ SqL K Hx a xs ∧ Pv 0 σ Hx) (hl : ∀ i σ' H', i ≤ xs.length → Pv i σ' H' → SqL K H' a xs)
    (hs : ∀ i x σ' H', xs[i]? = some x → Pv i σ' H' → Go s { D with nx := Lp Pv (i + 1), ct := Lp Pv (i + 1), bk := w D } (σ'.set j (some x)) H') (hd : ∀ σ' H', Pv xs.length σ' H' → Go w D σ' H') : Go (tSeq (tFor (iList K te) (gName j) s) w) D σ H := fun H1 e =>
  h H1 e _ fun v H2 ⟨Hx, ex, ev, hq, h0⟩ => ⟨a, ev, ⟨xs, ex_l ex hq⟩, for_list (D := { D with nx := w D }) (Lp Pv) ⟨Hx, ex, h0⟩ (fun i σ' H' hi ⟨Hy, ey, p⟩ => ex_l ey (hl i σ' Hy hi p)) (fun i x σ' H' hi ⟨Hy, ey, p⟩ => hs i x σ' Hy hi p H' ey) (fun σ' H' ⟨Hy, ey, p⟩ => hd σ' Hy p H' ey)⟩
/-- over a list that is made on the way -/
theorem gs_forF {j : Nat} (h : EvK te σ H fun v Hx => ∃ (a : Addr) (xs : List V) (Pv : Nat → L2.St → Hp → Prop), v = .ref a ∧ SqL K Hx a xs ∧ Pv 0 σ Hx ∧ (∀ i σ' H', i ≤ xs.length → Pv i σ' H' → SqL K H' a xs) ∧
    (∀ i x σ' H', xs[i]? = some x → Pv i σ' H' → Go s { D with nx := Lp Pv (i + 1), ct := Lp Pv (i + 1), bk := w D } (σ'.set j (some x)) H') ∧ (∀ σ' H', Pv xs.length σ' H' → Go w D σ' H')) : Go (tSeq (tFor (iList K te) (gName j) s) w) D σ H := fun H1 e =>
  h H1 e _ fun v H2 ⟨Hx, ex, a, xs, Pv, ev, hq, h0, hl, hs, hd⟩ => ⟨a, ev, ⟨xs, ex_l ex hq⟩, for_list (D := { D with nx := w D }) (Lp Pv) ⟨Hx, ex, h0⟩ (fun i σ' H' hi ⟨Hy, ey, p⟩ => ex_l ey (hl i σ' Hy hi p)) (fun i x σ' H' hi ⟨Hy, ey, p⟩ => hs i x σ' Hy hi p H' ey) (fun σ' H' ⟨Hy, ey, p⟩ => hd σ' Hy p H' ey)⟩
theorem g1_forL {a : Addr} {xs : List V} {j : Nat} (Pv : Nat → L2.St → Hp → Prop) (h : EvK te σ H fun v Hx => v = .ref a ∧ SqL K Hx a xs ∧ Pv 0 σ Hx) (hl : ∀ i σ' H', i ≤ xs.length → Pv i σ' H' → SqL K H' a xs)
    (hs : ∀ i x σ' H', xs[i]? = some x → Pv i σ' H' → Go s { D with nx := Lp Pv (i + 1), ct := Lp Pv (i + 1), bk := D.nx } (σ'.set j (some x)) H') (hd : ∀ σ' H', Pv xs.length σ' H' → ∀ H1, Ex H' H1 → D.nx σ' H1) : Go (tFor (iList K te) (gName j) s) D σ H := fun H1 e =>
  h H1 e _ fun v H2 ⟨Hx, ex, ev, hq, h0⟩ => ⟨a, ev, ⟨xs, ex_l ex hq⟩, for_list (Lp Pv) ⟨Hx, ex, h0⟩ (fun i σ' H' hi ⟨Hy, ey, p⟩ => ex_l ey (hl i σ' Hy hi p)) (fun i x σ' H' hi ⟨Hy, ey, p⟩ => hs i x σ' Hy hi p H' ey) (fun σ' H' ⟨Hy, ey, p⟩ => hd σ' Hy p H' ey)⟩
theorem gs_forR {n : Int} {tl : TA} {j : Nat} (Pv : Nat → L2.St → Hp → Prop) (h : EvAK tl σ H fun vs Hx => vs = [.int n] ∧ n ≤ 100000 ∧ 0 ≤ n ∧ Pv 0 σ Hx)
    (hs : ∀ (i : Nat) σ' H', (i : Int) < n → Pv i σ' H' → Go s { D with nx := Lp Pv (i + 1), ct := Lp Pv (i + 1), bk := w D } (σ'.set j (some (.int (i : Int)))) H') (hd : ∀ σ' H', Pv n.toNat σ' H' → Go w D σ' H') : Go (tSeq (tFor (iRng1 tl) (gName j) s) w) D σ H := fun H1 e =>
  h H1 e _ fun vs H2 ⟨Hx, ex, ev, hn, hn0, h0⟩ => ⟨n, ev, by omega, by omega, for_range (D := { D with nx := w D }) (lo := 0) (n := n.toNat) (Lp Pv) ⟨Hx, ex, h0⟩ (fun i σ' H' hi ⟨Hy, ey, p⟩ => by
    have e0 : (0 : Int) + (i : Int) = (i : Int) := Int.zero_add _
    show s _ (σ'.set j (some (.int ((0 : Int) + (i : Int))))) H'
    rw [e0]
    exact hs i σ' Hy (by omega) p H' ey) (fun σ' H' ⟨Hy, ey, p⟩ => hd σ' Hy p H' ey)⟩
theorem gs_forR2 {lo n : Int} {tl : TA} {j : Nat} (Pv : Nat → L2.St → Hp → Prop) (h : EvAK tl σ H fun vs Hx => vs = [.int lo, .int n] ∧ (0 ≤ lo ∧ lo ≤ 100000 ∧ -100000 ≤ n ∧ n ≤ 100000) ∧ Pv 0 σ Hx)
    (hs : ∀ (i : Nat) σ' H', lo + (i : Int) < n → Pv i σ' H' → Go s { D with nx := Lp Pv (i + 1), ct := Lp Pv (i + 1), bk := w D } (σ'.set j (some (.int (lo + (i : Int))))) H') (hd : ∀ σ' H', Pv (n - lo).toNat σ' H' → Go w D σ' H') : Go (tSeq (tFor (iRng2 tl) (gName j) s) w) D σ H := fun H1 e =>
  h H1 e _ fun vs H2 ⟨Hx, ex, ev, hn, h0⟩ => ⟨lo, n, ev, ⟨by omega, by omega, by omega, by omega⟩, for_range (D := { D with nx := w D }) (lo := lo) (n := (n - lo).toNat) (Lp Pv) ⟨Hx, ex, h0⟩ (fun i σ' H' hi ⟨Hy, ey, p⟩ => hs i σ' Hy (by omega) p H' ey) (fun σ' H' ⟨Hy, ey, p⟩ => hd σ' Hy p H' ey)⟩

/-! ### comprehensions: [e for x in range(n)], [e for x in xs]; the elements v i -/
/-- the words of an element: at any heap that has grown, the value alone -/
theorem k_lcR {n : Int} {tl : TA} {j : Nat} {vs : List Nat} (f : Nat → V) (h : EvAK tl σ H fun ws Hx => ws = [.int n] ∧ n ≤ 40000 ∧ 0 ≤ n ∧ (∀ x, wipe ((wipe σ vs).set j (some x)) vs = wipe σ vs) ∧ (∀ (i : Nat) Hz, (i : Int) < n → Ex Hx Hz → EvK te ((wipe σ vs).set j (some (.int (i : Int)))) Hz fun v Hy => v = f i ∧ Hy = Hz) ∧ ∀ p, Hx p = none → P (.ref p) (upd Hx p (.lst ((List.range n.toNat).map f)))) :
    EvK (tLc (iRng1 tl) (gName j) tYes te vs) σ H P := fun H1 e Q k =>
  h H1 e _ fun ws H2 ⟨Hx, ex, ev, hn, hn0, hw, hs, hd⟩ => ⟨n, ev, by omega, by omega, fun p np => by
    have npx : Hx p = none := fresh_back ex np
    refine lc_range (lo := 0) (n := n.toNat) (fun i H' => Ex (upd Hx p (.lst ((List.range i).map f))) H') (Ex.updm ex) (fun i H' hi p' => ?_) (fun H' p' => k _ _ ⟨_, p', hd p npx⟩)
    have e0 : (0 : Int) + (i : Int) = (i : Int) := Int.zero_add _
    show wipe ((wipe σ vs).set j (some (.int ((0 : Int) + (i : Int))))) vs = wipe σ vs ∧ te ((wipe σ vs).set j (some (.int ((0 : Int) + (i : Int))))) H' fun y H4 => ∃ acc, H4 p = some (.lst acc) ∧ acc.length < sizeLine ∧ Ex (upd Hx p (.lst ((List.range (i + 1)).map f))) (upd H4 p (.lst (acc ++ [y])))
    rw [e0]
    refine ⟨hw _, hs i (upd Hx p (.lst ((List.range i).map f))) (by omega) (Ex.new npx) H' p' _ ?_⟩
    rintro y H4 ⟨Hy, ey, rfl, rfl⟩
    refine ⟨_, ey p _ upd_same, sz_lt (by rw [List.length_map, List.length_range]; omega), ?_⟩
    have e5 : (List.range (i + 1)).map f = (List.range i).map f ++ [f i] := by rw [List.range_succ, List.map_append]; rfl
    rw [e5]
    exact Ex.updm (fun a u q => by
      by_cases ha : a = p
      · subst ha
        rw [npx] at q
        cases q
      · exact ey a u (by rw [upd_ne ha]; exact q))⟩
theorem k_lcL {a : Addr} {xs : List V} {j : Nat} {vs : List Nat} {tl : TE} (f : Nat → V → V) (h : EvK tl σ H fun w Hx => w = .ref a ∧ SqL K Hx a xs ∧ xs.length ≤ 40000 ∧ (∀ x, wipe ((wipe σ vs).set j (some x)) vs = wipe σ vs) ∧ (∀ (i : Nat) x Hz, xs[i]? = some x → Ex Hx Hz → EvK te ((wipe σ vs).set j (some x)) Hz fun v Hy => v = f i x ∧ Hy = Hz) ∧ ∀ p, Hx p = none → P (.ref p) (upd Hx p (.lst (xs.mapIdx f)))) :
    EvK (tLc (iList K tl) (gName j) tYes te vs) σ H P := fun H1 e Q k =>
  h H1 e _ fun w H2 ⟨Hx, ex, ev, hq, hn, hw, hs, hd⟩ => ⟨a, ev, ⟨xs, ex_l ex hq⟩, fun p np => by
    have npx : Hx p = none := fresh_back ex np
    refine lc_list (xs := xs) (fun i H' => Ex (upd Hx p (.lst ((xs.take i).mapIdx f))) H') (Ex.updm ex) (fun i H' _ p' => ex_l p' (ex_l (Ex.new npx) hq)) (fun i x H' hi p' => ?_) (fun H' p' => k _ _ ⟨_, p', by rw [List.take_length]; exact hd p npx⟩)
    show wipe ((wipe σ vs).set j (some x)) vs = wipe σ vs ∧ te ((wipe σ vs).set j (some x)) H' fun y H4 => ∃ acc, H4 p = some (.lst acc) ∧ acc.length < sizeLine ∧ Ex (upd Hx p (.lst ((xs.take (i + 1)).mapIdx f))) (upd H4 p (.lst (acc ++ [y])))
    have hlt : i < xs.length := (List.getElem?_eq_some_iff.mp hi).1
    refine ⟨hw _, hs i x (upd Hx p (.lst ((xs.take i).mapIdx f))) hi (Ex.new npx) H' p' _ ?_⟩
    rintro y H4 ⟨Hy, ey, rfl, rfl⟩
    refine ⟨_, ey p _ upd_same, sz_lt (by rw [List.length_mapIdx, List.length_take]; omega), ?_⟩
    have e5 : (xs.take (i + 1)).mapIdx f = (xs.take i).mapIdx f ++ [f i x] := by
      rw [List.take_succ, hi, List.mapIdx_append, List.length_take, Nat.min_eq_left (Nat.le_of_lt hlt)]
      simp
    rw [e5]
    exact Ex.updm (fun a u q => by
      by_cases ha : a = p
      · subst ha
        rw [npx] at q
        cases q
      · exact ey a u (by rw [upd_ne ha]; exact q))⟩

/-! ### targets -/
def GK (g : TG) (v : V) (σ : L2.St) (H : Hp) (R : L2.St → Hp → Prop) : Prop := ∀ H1, Ex H H1 → ∀ Q : L2.St → Hp → Prop, (∀ σ' H2, (∃ Hx, Ex Hx H2 ∧ R σ' Hx) → Q σ' H2) → g v σ H1 Q
theorem gk_name {i : Nat} {R : L2.St → Hp → Prop} (h : R (σ.set i (some v)) H) : GK (gName i) v σ H R := fun H1 e Q k => k _ _ ⟨H, e, h⟩
theorem gk_tup2 {a : Addr} {g1 g2 : TG} {R : L2.St → Hp → Prop} (hq : SqT K H a [x, y]) (h : GK g1 x σ H fun σ1 H1 => GK g2 y σ1 H1 R) : GK (gTup K 2 (gCons g1 (gCons g2 gNil))) (.ref a) σ H R := fun H1 e Q k =>
  ⟨a, [x, y], rfl, ex_t e hq, rfl, x, [y], rfl, h H1 e _ fun σ1 H2 ⟨_, ex, h2⟩ => ⟨y, [], rfl, h2 H2 ex _ fun σ2 H3 z => ⟨rfl, k σ2 H3 z⟩⟩⟩
theorem gk_tup3 {a : Addr} {g1 g2 g3 : TG} {R : L2.St → Hp → Prop} (hq : SqT K H a [x, y, z]) (h : GK g1 x σ H fun σ1 H1 => GK g2 y σ1 H1 fun σ2 H2 => GK g3 z σ2 H2 R) : GK (gTup K 3 (gCons g1 (gCons g2 (gCons g3 gNil)))) (.ref a) σ H R := fun H1 e Q k =>
  ⟨a, [x, y, z], rfl, ex_t e hq, rfl, x, [y, z], rfl, h H1 e _ fun σ1 H2 ⟨_, ex, h2⟩ => ⟨y, [z], rfl, h2 H2 ex _ fun σ2 H3 ⟨_, ey, h3⟩ => ⟨z, [], rfl, h3 H3 ey _ fun σ3 H4 u => ⟨rfl, k σ3 H4 u⟩⟩⟩⟩
theorem gs_asgG {g : TG} (h : EvK te σ H fun v Hx => GK g v σ Hx fun σ' Hy => Go w D σ' Hy) : Go (tSeq (tAsg te g) w) D σ H := fun H1 e => h H1 e _ fun v H2 ⟨_, ex, gk⟩ => gk H2 ex _ fun σ' H3 ⟨_, ey, go⟩ => go H3 ey
theorem gs_forG {g : TG} (h : EvK te σ H fun v Hx => ∃ (a : Addr) (xs : List V) (Pv : Nat → L2.St → Hp → Prop), v = .ref a ∧ SqL K Hx a xs ∧ Pv 0 σ Hx ∧ (∀ i σ' H', i ≤ xs.length → Pv i σ' H' → SqL K H' a xs) ∧
    (∀ i x σ' H', xs[i]? = some x → Pv i σ' H' → GK g x σ' H' fun σ2 H2 => Go s { D with nx := Lp Pv (i + 1), ct := Lp Pv (i + 1), bk := w D } σ2 H2) ∧ (∀ σ' H', Pv xs.length σ' H' → Go w D σ' H')) : Go (tSeq (tFor (iList K te) g s) w) D σ H := fun H1 e =>
  h H1 e _ fun v H2 ⟨Hx, ex, a, xs, Pv, ev, hq, h0, hl, hs, hd⟩ => ⟨a, ev, ⟨xs, ex_l ex hq⟩, for_list (D := { D with nx := w D }) (Lp Pv) ⟨Hx, ex, h0⟩ (fun i σ' H' hi ⟨Hy, ey, p⟩ => ex_l ey (hl i σ' Hy hi p)) (fun i x σ' H' hi ⟨Hy, ey, p⟩ => hs i x σ' Hy hi p H' ey _ fun σ2 H2 ⟨_, ez, go⟩ => go H2 ez) (fun σ' H' ⟨Hy, ey, p⟩ => hd σ' Hy p H' ey)⟩
/-- for x, y in zip(xs, ys): two lists of one length -/
theorem gs_forZ {g1 g2 : TG} {tl : TA} (h : EvAK tl σ H fun vs Hx => ∃ (a b : Addr) (xs ys : List V) (Pv : Nat → L2.St → Hp → Prop), vs = [.ref a, .ref b] ∧ SqL K Hx a xs ∧ SqL K Hx b ys ∧ xs.length = ys.length ∧ Pv 0 σ Hx ∧ (∀ i σ' H', Pv i σ' H' → SqL K H' a xs ∧ SqL K H' b ys) ∧
    (∀ i x y σ' H', xs[i]? = some x → ys[i]? = some y → Pv i σ' H' → GK g1 x σ' H' fun σ1 H1 => GK g2 y σ1 H1 fun σ2 H2 => Go s { D with nx := Lp Pv (i + 1), ct := Lp Pv (i + 1), bk := w D } σ2 H2) ∧ (∀ σ' H', Pv xs.length σ' H' → Go w D σ' H')) :
    Go (tSeq (tFor (iZip K tl) (gTup K 2 (gCons g1 (gCons g2 gNil))) s) w) D σ H := fun H1 e =>
  h H1 e _ fun vs H2 ⟨Hx, ex, a, b, xs, ys, Pv, ev, hx, hy, hl, h0, hq, hs, hd⟩ => ⟨a, b, xs, ys, ev, ex_l ex hx, ex_l ex hy, RZ.for_zipL (D := { D with nx := w D }) hl (Lp Pv) ⟨Hx, ex, h0⟩ (fun i σ' H' ⟨Hy, ey, p⟩ => ⟨ex_l ey (hq i σ' Hy p).1, ex_l ey (hq i σ' Hy p).2⟩)
    (fun i x y T σ' H' gx gy ⟨Hy, ey, p⟩ nT => gk_tup2 (H := upd H' T (.tup [x, y])) (st_of upd_same) (fun H3 e3 Q k => hs i x y σ' Hy gx gy p H3 ((ey.trans (Ex.new nT)).trans e3) Q k) _ (Ex.refl _) _ fun σ2 H2 ⟨_, ez, go⟩ => go H2 ez) (fun σ' H' ⟨Hy, ey, p⟩ => hd σ' Hy p H' ey)⟩
/-- divmod -/
theorem c_divmod {i j : Int} (hc : CDiv i j) (hp : ∀ p, H p = none → P (.ref p) (upd H p (.tup [.int (i / j), .int (i % j)]))) : CK (fun xs H Q => ∃ i j, xs = [.int i, .int j] ∧ CDiv i j ∧ ∀ p, H p = none → Q (.ref p) (upd H p (.tup [.int (i / j), .int (i % j)]))) [.int i, .int j] H P := fun H1 e Q k => ⟨i, j, rfl, hc, fun p np => k _ _ ⟨_, Ex.updm e, hp p (fresh_back e np)⟩⟩
/-- a statement whose ways meet: what holds behind it, told once -/
def Md (Pc : L2.St → Hp → Prop) (σ : L2.St) (H : Hp) : Prop := ∃ Hx, Ex Hx H ∧ Pc σ Hx
theorem gs_mid (Pc : L2.St → Hp → Prop) (h : Go s { D with nx := Md Pc } σ H) (R : ∀ σ' H', Pc σ' H' → Go w D σ' H') : Go (Evl.tCut s w) D σ H := fun H1 e => ⟨Md Pc, h H1 e, fun σ' H' ⟨Hx, ex, p⟩ => R σ' Hx p H' ex⟩
theorem g1_forF {j : Nat} (h : EvK te σ H fun v Hx => ∃ (a : Addr) (xs : List V) (Pv : Nat → L2.St → Hp → Prop), v = .ref a ∧ SqL K Hx a xs ∧ Pv 0 σ Hx ∧ (∀ i σ' H', i ≤ xs.length → Pv i σ' H' → SqL K H' a xs) ∧
    (∀ i x σ' H', xs[i]? = some x → Pv i σ' H' → Go s { D with nx := Lp Pv (i + 1), ct := Lp Pv (i + 1), bk := D.nx } (σ'.set j (some x)) H') ∧ (∀ σ' H', Pv xs.length σ' H' → ∀ H1, Ex H' H1 → D.nx σ' H1)) : Go (tFor (iList K te) (gName j) s) D σ H := fun H1 e =>
  h H1 e _ fun v H2 ⟨Hx, ex, a, xs, Pv, ev, hq, h0, hl, hs, hd⟩ => ⟨a, ev, ⟨xs, ex_l ex hq⟩, for_list (Lp Pv) ⟨Hx, ex, h0⟩ (fun i σ' H' hi ⟨Hy, ey, p⟩ => ex_l ey (hl i σ' Hy hi p)) (fun i x σ' H' hi ⟨Hy, ey, p⟩ => hs i x σ' Hy hi p H' ey) (fun σ' H' ⟨Hy, ey, p⟩ => hd σ' Hy p H' ey)⟩

/-! ### what may raise -/
/-- a call that may raise, in a def that lets it out (E), in a try (by the slots) -/
def tCallX (sp : Sp) (E : XK) (tl : TA) : TE := tCall sp [] E tl
theorem peX {X : Cx} {sp : Sp} {E : XK} {tl : TA} {e : Expr} (h : PE X e (tCall sp [] E tl)) : PE X e (tCallX sp E tl) := h
theorem k_callX {sp : Sp} {E : XK} {tl : TA} (h : EvAK tl σ H fun vs Hx => Kc (fun H Q => sp vs H Q E) Hx P) : EvK (tCallX sp E tl) σ H P := fun H1 e Q k => h H1 e _ fun vs H2 ⟨Hx, ex, h2⟩ => by
  rw [List.append_nil]
  exact h2 H2 ex Q k
theorem k_callS {sp : Sp} {E : L2.St → XK} {tl : TA} (h : EvAK tl σ H fun vs Hx => Kc (fun H Q => sp vs H Q (E σ)) Hx P) : EvK (tCallS sp E tl) σ H P := kc_bind (f := fun vs H1 Q => sp vs H1 Q (E σ)) h
/-- what is wished of an exception at a heap that may have grown -/
def KE (E : XK) (c : Value) (d : Option Addr) (Hx : Hp) : Prop := ∀ H1, Ex Hx H1 → E c d H1
theorem KE.up {E : XK} {c : Value} {d : Option Addr} (h : KE E c d H) (e : Ex H H') : KE E c d H' := fun H1 a => h H1 (e.trans a)
/-- except c as n (slot i), the exception's class that clause's -/
theorem ke_as {c : Value} {i : Nat} {ts : Addr → Value → Option Addr → TS} {Wout : WX} {cls : Value} {d : Option Addr} (he : PySem.W.exmOne K cls c = some true)
    (h : ∀ a, H a = none → Go (ts a cls d) { nx := fun σ' H' => D.nx (σ'.set i none) H', rt := D.rt, bk := fun σ' H' => D.bk (σ'.set i none) H', ct := fun σ' H' => D.ct (σ'.set i none) H' } (σ.set i (some (.ref a))) H) : KE (WE (wAs K c i ts Wout D) σ) cls d H := fun H1 e =>
  ⟨true, he, fun _ a na => h a (fresh_back e na) H1 e, fun q => Bool.noConfusion q⟩
theorem ke_only {c : Value} {ts : Addr → Value → Option Addr → TS} {Wout : WX} {cls : Value} {d : Option Addr} (he : PySem.W.exmOne K cls c = some true)
    (h : ∀ a, H a = none → Go (ts a cls d) D σ H) : KE (WE (wOnly K c ts Wout D) σ) cls d H := fun H1 e => ⟨true, he, fun _ a na => h a (fresh_back e na) H1 e, fun q => Bool.noConfusion q⟩
/-- a suite that is only asked for exceptions of the class at C, made without a dict of their own -/
def tsD (C : Addr) (ts : Addr → TS) : Addr → Value → Option Addr → TS := fun a cls d Dn σ H => cls = .ref C ∧ d = none ∧ ts a Dn σ H
theorem suiteD {X : Cx} {C : Addr} {sts : List Stmt} {ts : Addr → TS} (h : ∀ (a : Addr) (oe : Obj) (pn : List (Addr × Obj)), Zc (.ref C) none oe → (∃ vs, oe.data = .fields vs) → PSs (X.suite a ((a, oe) :: pn)) sts (ts a)) :
    ∀ (a : Addr) (oe : Obj) (cls : Value) (d : Option Addr) (pn : List (Addr × Obj)), Zc cls d oe → (∃ vs, oe.data = .fields vs) → PSs (X.suite a ((a, oe) :: pn)) sts (tsD C ts a cls d) := fun a oe cls d pn hz hf =>
  ⟨fun pins s σ H Dn I hh => by
    obtain ⟨e1, e2, h2⟩ := hh
    subst e1 e2
    exact (h a oe pn hz hf).run pins s σ H Dn I h2⟩
theorem g_tsD {C a : Addr} {ts : Addr → TS} (h : Go (ts a) D σ H) : Go (tsD C ts a (.ref C) none) D σ H := fun H1 e => ⟨rfl, rfl, h H1 e⟩
theorem bIsE {X : Cx} {a C : Addr} {oe : Obj} {pn : List (Addr × Obj)} (CE : ExcC K C) (hz : Zc (.ref C) none oe) (hf : ∃ vs, oe.data = .fields vs) (h : X.K = K := by rfl) : CallR (X.suite a ((a, oe) :: pn)) (.builtin "isinstance") (rIsE K C a) := by
  subst h
  exact call_isE CE hz hf
theorem c_isE {C a D0 : Addr} {b : Bool} (hk : PySem.W.kitOne K (.ref C) (.ref D0) = some b) (hp : P (.bl b) H) : CK (rIsE K C a) [.ref a, .ref D0] H P := fun H1 e Q k => ⟨.ref D0, .ref D0, b, rfl, fun u r => r, hk, k _ _ ⟨H, e, hp⟩⟩
theorem c_isET {C a : Addr} {n : String} {b : Bool} (hk : PySem.W.kitOne K (.ref C) (.type n) = some b) (hp : P (.bl b) H) : CK (rIsE K C a) [.ref a, .ty n] H P := fun H1 e Q k => ⟨.ty n, .type n, b, rfl, fun u r => r, hk, k _ _ ⟨H, e, hp⟩⟩
/-- xs.insert(i, y), xs.pop(i), 0 ≤ i -/
theorem m_insert {l : Addr} {xs : List V} {j : Nat} (h : H l = some (.lst xs)) (hz : xs.length < 100000) (hj : j ≤ 100000) (hp : P .non (upd H l (.lst (xs.take j ++ [y] ++ xs.drop j)))) : MK (fun x vs H Q => ∃ (l : Addr) (xs : List V) (i : Int) (y : V), x = .ref l ∧ vs = [.int i, y] ∧ H l = some (.lst xs) ∧ xs.length < sizeLine ∧ 0 ≤ i ∧ i < 2 ^ 63 ∧ Q .non (upd H l (.lst (xs.take i.toNat ++ [y] ++ xs.drop i.toNat)))) (.ref l) [.int (j : Int), y] H P := fun H1 e Q k =>
  ⟨l, xs, (j : Int), y, rfl, rfl, e _ _ h, sz_lt hz, by omega, by omega, by
    rw [Int.toNat_natCast]
    exact k _ _ ⟨_, Ex.updm e, hp⟩⟩
theorem m_popAt {l : Addr} {xs : List V} {j : Nat} (h : H l = some (.lst xs)) (hz : xs.length < 100000) (hj : xs[j]? = some y) (hp : P y (upd H l (.lst (xs.eraseIdx j)))) : MK rPopAt (.ref l) [.int (j : Int)] H P := fun H1 e Q k => by
  have hlt := (List.getElem?_eq_some_iff.mp hj).1
  exact ⟨l, xs, (j : Int), j, y, rfl, rfl, e _ _ h, by omega, by omega, seqIndex_of (by omega) (by omega), hj, k _ _ ⟨_, Ex.updm e, hp⟩⟩
end
end Px

set_option Elab.async false
set_option linter.all false
/-! Pm: plain mathematics: rows in order, what the fullest hold together. -/
namespace Pm
/-- a row in order, the fullest first -/
def sd (ns : List Int) : List Int := ns.mergeSort fun a b => decide (b ≤ a)
theorem sd_perm (ns : List Int) : (sd ns).Perm ns := List.mergeSort_perm ns _
theorem sd_sorted (ns : List Int) : (sd ns).Pairwise (· ≥ ·) := by
  have h := List.pairwise_mergeSort (le := fun a b : Int => decide (b ≤ a)) (fun a b c h1 h2 => by
    have h1' := of_decide_eq_true h1
    have h2' := of_decide_eq_true h2
    exact decide_eq_true (by omega)) (fun a b => by
    by_cases h : b ≤ a
    · rw [decide_eq_true h]; rfl
    · have h2 : a ≤ b := by omega
      rw [decide_eq_true h2, Bool.or_true]) ns
  exact h.imp fun h => of_decide_eq_true h
theorem sd_uniq {l ns : List Int} (p : l.Perm ns) (s : l.Pairwise (· ≥ ·)) : l = sd ns :=
  List.Perm.eq_of_pairwise (le := (· ≥ ·)) (fun a b _ _ h1 h2 => by omega) s (sd_sorted ns) (p.trans (sd_perm ns).symm)
theorem sd_of_perm {a b : List Int} (p : a.Perm b) : sd a = sd b := sd_uniq ((sd_perm a).trans p) (sd_sorted a)
theorem sd_len (ns : List Int) : (sd ns).length = ns.length := (sd_perm ns).length_eq
theorem sd_reverse (ns : List Int) : sd ns.reverse = sd ns := sd_of_perm (List.reverse_perm ns)
theorem perm_sum {a b : List Int} (p : a.Perm b) : a.sum = b.sum := by
  induction p with
  | nil => rfl
  | cons x _ ih => rw [List.sum_cons, List.sum_cons, ih]
  | swap x y l => rw [List.sum_cons, List.sum_cons, List.sum_cons, List.sum_cons]; omega
  | trans _ _ h1 h2 => exact h1.trans h2
/-- the sums of the first k, for each k -/
def psums (l : List Int) : List Int := (List.range (l.length + 1)).map fun k => (l.take k).sum
def tops (ns : List Int) : List Int := psums (sd ns)
theorem psums_len (l : List Int) : (psums l).length = l.length + 1 := by unfold psums; rw [List.length_map, List.length_range]
theorem tops_len (l : List Int) : (tops l).length = l.length + 1 := by unfold tops; rw [psums_len, sd_len]
theorem take_more {α : Type} {l : List α} {i : Nat} {x : α} (h : l[i]? = some x) : l.take (i + 1) = l.take i ++ [x] := by
  rw [List.take_succ, h]; rfl
theorem sum_take {l : List Int} {i : Nat} {x : Int} (h : l[i]? = some x) : (l.take (i + 1)).sum = (l.take i).sum + x := by
  rw [take_more h, List.sum_append, List.sum_cons, List.sum_nil]; omega
theorem psums_get {l : List Int} {k : Nat} (h : k ≤ l.length) : (psums l)[k]? = some (l.take k).sum := by
  unfold psums
  rw [List.getElem?_map, List.getElem?_range (by omega)]
  rfl
theorem map_at {ns : List Int} {i : Nat} {x : L2.V} (h : (ns.map L2.V.int)[i]? = some x) : ∃ z, ns[i]? = some z ∧ x = L2.V.int z := by
  rw [List.getElem?_map] at h
  cases e : ns[i]? with
  | none => rw [e] at h; cases h
  | some z => rw [e] at h; exact ⟨z, rfl, (Option.some.inj h).symm⟩
theorem atI_map {ns : List Int} {k : Nat} {z : Int} (h : ns[k]? = some z) : L2.atI (ns.map L2.V.int) (k : Int) = some (L2.V.int z) := L2.atI_nat (by rw [List.getElem?_map, h]; rfl)
theorem range_getD {α : Type} (l : List Int) (f : Int → α) : (List.range l.length).map (fun i => f (l.getD i 0)) = l.map f := by
  apply List.ext_getElem
  · rw [List.length_map, List.length_range, List.length_map]
  · intro i h1 h2
    rw [List.length_map] at h2
    rw [List.getElem_map, List.getElem_map, List.getElem_range, List.getD_eq_getElem?_getD, List.getElem?_eq_getElem h2]
    rfl
open L2 Evl Px in
/-- sorted(xs, reverse=True) -/
theorem c_sortedRev {K : PySem.W.Frag} {H : Hp} {P : V → Hp → Prop} {a : PySem.Addr} {ns : List Int} (h : SqL K H a (ns.map V.int)) (hp : ∀ p, H p = none → P (.ref p) (upd H p (.lst ((sd ns).map V.int)))) : Kc (rSortedKw K true [.bl true] [.ref a] [.bl true]) H P := fun H1 e Q k =>
  ⟨a, ns, rfl, rfl, ex_l e h, fun ns' p hp' ho np => by
    have e2 : ns' = sd ns := sd_uniq hp' ho
    subst e2
    exact k _ _ ⟨_, Ex.updm e, hp p (fresh_back e np)⟩⟩

theorem atI_neg {α : Type} {l : List α} (h : 0 < l.length) : L2.atI l (-1) = l[l.length - 1]? := by
  unfold L2.atI L2.ixN
  rw [if_neg (by omega), if_pos (by omega)]
  show l[(-1 + (l.length : Int)).toNat]? = _
  congr 1
  omega
theorem atI_last {l : List Int} (h : 0 < l.length) : L2.atI (l.map L2.V.int) (-1) = some (L2.V.int (l.getD (l.length - 1) 0)) := by
  rw [atI_neg (by rw [List.length_map]; exact h), List.length_map, List.getElem?_map, List.getD_eq_getElem?_getD, List.getElem?_eq_getElem (by omega)]
  rfl

/-! ### sums -/
theorem rsum_succ (f : Nat → Int) (k : Nat) : ((List.range (k + 1)).map f).sum = ((List.range k).map f).sum + f k := by
  rw [List.range_succ, List.map_append, List.sum_append]
  show _ + (f k + 0) = _
  omega
theorem sum_ge {x : Int} : ∀ {l : List Int}, (∀ y ∈ l, x ≤ y) → (l.length : Int) * x ≤ l.sum
  | [], _ => by simp
  | a :: l, h => by
    have h1 := sum_ge (x := x) (l := l) fun y hy => h y (List.mem_cons_of_mem _ hy)
    have h2 := h a List.mem_cons_self
    rw [List.length_cons, List.sum_cons]
    have e : ((l.length + 1 : Nat) : Int) * x = (l.length : Int) * x + x := by
      rw [Int.natCast_add, Int.add_mul]
      show _ + 1 * x = _
      rw [Int.one_mul]
    omega
theorem sum_le {x : Int} : ∀ {l : List Int}, (∀ y ∈ l, y ≤ x) → l.sum ≤ (l.length : Int) * x
  | [], _ => by simp
  | a :: l, h => by
    have h1 := sum_le (x := x) (l := l) fun y hy => h y (List.mem_cons_of_mem _ hy)
    have h2 := h a List.mem_cons_self
    rw [List.length_cons, List.sum_cons]
    have e : ((l.length + 1 : Nat) : Int) * x = (l.length : Int) * x + x := by
      rw [Int.natCast_add, Int.add_mul]
      show _ + 1 * x = _
      rw [Int.one_mul]
    omega
theorem abs_sum {b : Nat} : ∀ {l : List Int}, (∀ y ∈ l, y.natAbs < b) → l.sum.natAbs ≤ l.length * b
  | [], _ => by simp
  | a :: l, h => by
    have h1 := abs_sum (b := b) (l := l) fun y hy => h y (List.mem_cons_of_mem _ hy)
    have h2 := h a List.mem_cons_self
    rw [List.length_cons, List.sum_cons, Nat.add_mul]
    omega
theorem sum_bd {b : Nat} {l : List Int} (h : ∀ y ∈ l, Px.Bd b y) (hl : l.length ≤ 100) : Px.Bd (b + 7) l.sum := by
  have h1 := abs_sum (b := 2 ^ b) h
  have h2 : l.length * 2 ^ b ≤ 100 * 2 ^ b := Nat.mul_le_mul_right _ hl
  unfold Px.Bd
  rw [Nat.pow_add]
  have h3 : 0 < 2 ^ b := Nat.pow_pos (by decide)
  omega
/-- the sum of the squares -/
def sq (l : List Int) : Int := (l.map fun x => x * x).sum
theorem sq_take {l : List Int} {i : Nat} {x : Int} (h : l[i]? = some x) : sq (l.take (i + 1)) = sq (l.take i) + x * x := by
  unfold sq
  rw [take_more h, List.map_append, List.sum_append]
  show _ + (x * x + 0) = _
  omega
theorem sq_bd {b : Nat} {l : List Int} (h : ∀ y ∈ l, Px.Bd b y) (hl : l.length ≤ 100) : Px.Bd (b + b + 7) (sq l) := sum_bd (fun y hy => by
  obtain ⟨x, hx, rfl⟩ := List.mem_map.mp hy
  exact (h x hx).mul (h x hx)) (by rw [List.length_map]; exact hl)
def spread (l : List Int) : Int := (l.length : Int) * sq l - l.sum * l.sum
theorem sq_perm {a b : List Int} (p : a.Perm b) : sq a = sq b := perm_sum (p.map _)
theorem spread_perm {a b : List Int} (p : a.Perm b) : spread a = spread b := by
  unfold spread
  rw [sq_perm p, perm_sum p, p.length_eq]
/-- the squared differences of x to each of l -/
def dsq (x : Int) (l : List Int) : Int := (l.map fun y => (x - y) * (x - y)).sum
theorem dsq_take {x : Int} {l : List Int} {i : Nat} {y : Int} (h : l[i]? = some y) : dsq x (l.take (i + 1)) = dsq x (l.take i) + (x - y) * (x - y) := by
  unfold dsq
  rw [take_more h, List.map_append, List.sum_append]
  show _ + ((x - y) * (x - y) + 0) = _
  omega
theorem dsq_eq (x : Int) : ∀ l : List Int, dsq x l = (l.length : Int) * (x * x) - 2 * x * l.sum + sq l
  | [] => by simp [dsq, sq]
  | y :: l => by
    have ih := dsq_eq x l
    have e1 : dsq x (y :: l) = (x - y) * (x - y) + dsq x l := by unfold dsq; rw [List.map_cons, List.sum_cons]
    have e2 : sq (y :: l) = y * y + sq l := by unfold sq; rw [List.map_cons, List.sum_cons]
    rw [e1, e2, ih, List.sum_cons, List.length_cons, Int.natCast_add]
    generalize l.sum = S
    generalize sq l = q
    generalize (l.length : Int) = n
    show _ = (n + 1) * (x * x) - _ + _
    grind
/-- all pairs, place by place -/
def pairs (l : List Int) : Nat → Int
  | 0 => 0
  | k + 1 => pairs l k + dsq (l.getD k 0) (l.take k)
theorem pairs_eq (l : List Int) : ∀ k, k ≤ l.length → pairs l k = (k : Int) * sq (l.take k) - (l.take k).sum * (l.take k).sum
  | 0, _ => by simp [pairs]
  | k + 1, h => by
    have ih := pairs_eq l k (by omega)
    have hx : l[k]? = some (l.getD k 0) := by
      rw [List.getD_eq_getElem?_getD, List.getElem?_eq_getElem (by omega)]
      rfl
    show pairs l k + dsq (l.getD k 0) (l.take k) = _
    rw [ih, dsq_eq, sq_take hx, sum_take hx, List.length_take, Nat.min_eq_left (by omega), Int.natCast_add]
    generalize (l.take k).sum = S
    generalize sq (l.take k) = q
    generalize l.getD k 0 = x
    generalize (k : Int) = n
    show _ = (n + 1) * _ - _
    grind
theorem pairs_all (l : List Int) : pairs l l.length = spread l := by
  rw [pairs_eq l _ (Nat.le_refl _), List.take_length]
  rfl
theorem getD_at {l : List Int} {i : Nat} (h : i < l.length) : l[i]? = some (l.getD i 0) := by
  rw [List.getD_eq_getElem?_getD, List.getElem?_eq_getElem h]
  rfl

/-! ### the level row -/
def lv (n : Nat) (s : Int) (k : Nat) : Int := s / (n : Int) + if (k : Int) < s % (n : Int) then 1 else 0
def level (n : Nat) (s : Int) : List Int := (List.range n).map (lv n s)
theorem level_len (n : Nat) (s : Int) : (level n s).length = n := by unfold level; rw [List.length_map, List.length_range]
theorem lv_sum {n : Nat} {s : Int} (h : 0 ≤ s % (n : Int)) : ∀ k : Nat, ((List.range k).map (lv n s)).sum = (k : Int) * (s / (n : Int)) + min (k : Int) (s % (n : Int))
  | 0 => by simp; omega
  | k + 1 => by
    rw [rsum_succ, lv_sum h k]
    unfold lv
    have e : ((k + 1 : Nat) : Int) * (s / (n : Int)) = (k : Int) * (s / (n : Int)) + s / (n : Int) := by
      rw [Int.natCast_add, Int.add_mul]
      show _ + 1 * _ = _
      rw [Int.one_mul]
    rw [e]
    split <;> omega
theorem level_take {n : Nat} {s : Int} {k : Nat} (h : k ≤ n) : (level n s).take k = (List.range k).map (lv n s) := by
  unfold level
  rw [← List.map_take, List.take_range, Nat.min_eq_left h]
theorem level_sum {n : Nat} {s : Int} (h : 0 < n) : (level n s).sum = s := by
  have h0 := Int.emod_nonneg s (show (n : Int) ≠ 0 by omega)
  have h1 := Int.emod_lt_of_pos s (show 0 < (n : Int) by omega)
  have e := lv_sum h0 n
  unfold level
  rw [e, Int.min_eq_right (by omega)]
  exact Int.mul_ediv_add_emod s n
theorem level_at {n : Nat} {s : Int} {k : Nat} (h : k < n) : (level n s)[k]? = some (lv n s k) := by
  unfold level
  rw [List.getElem?_map, List.getElem?_range h]
  rfl
theorem lv_mono {n : Nat} {s : Int} {i j : Nat} (h : i ≤ j) : lv n s j ≤ lv n s i := by
  unfold lv
  split <;> split <;> omega
theorem level_sorted (n : Nat) (s : Int) : (level n s).Pairwise (· ≥ ·) := by
  unfold level
  rw [List.pairwise_map]
  exact List.pairwise_lt_range.imp fun h => lv_mono (Nat.le_of_lt h)
theorem sd_level (n : Nat) (s : Int) : sd (level n s) = level n s := (sd_uniq (List.Perm.refl _) (level_sorted n s)).symm
theorem lv_sq {n : Nat} {s : Int} (h : 0 ≤ s % (n : Int)) : ∀ k : Nat, ((List.range k).map fun i => lv n s i * lv n s i).sum = (k : Int) * ((s / (n : Int)) * (s / (n : Int))) + min (k : Int) (s % (n : Int)) * (2 * (s / (n : Int)) + 1)
  | 0 => by
    have e : min ((0 : Nat) : Int) (s % (n : Int)) = 0 := by omega
    rw [e]
    simp
  | k + 1 => by
    rw [rsum_succ, lv_sq h k]
    unfold lv
    rw [Int.natCast_add]
    by_cases c : (k : Int) < s % (n : Int)
    · rw [if_pos c, Int.min_eq_left (by omega), Int.min_eq_left (by omega)]
      generalize s / (n : Int) = q
      generalize (k : Int) = m
      show _ = (m + 1) * _ + (m + 1) * _
      grind
    · rw [if_neg c, Int.min_eq_right (by omega), Int.min_eq_right (by omega)]
      generalize s / (n : Int) = q
      generalize s % (n : Int) = r
      generalize (k : Int) = m
      show _ = (m + 1) * _ + _
      grind
theorem spread_level {n : Nat} {s : Int} (h : 0 < n) : spread (level n s) = s % (n : Int) * ((n : Int) - s % (n : Int)) := by
  have h0 := Int.emod_nonneg s (show (n : Int) ≠ 0 by omega)
  have h1 := Int.emod_lt_of_pos s (show 0 < (n : Int) by omega)
  have e1 : sq (level n s) = (n : Int) * ((s / (n : Int)) * (s / (n : Int))) + s % (n : Int) * (2 * (s / (n : Int)) + 1) := by
    unfold sq level
    rw [List.map_map]
    have e := lv_sq h0 n
    rw [Int.min_eq_right (by omega)] at e
    exact e
  unfold spread
  rw [e1, level_sum h, level_len]
  have e2 := Int.mul_ediv_add_emod s n
  generalize s / (n : Int) = q at *
  generalize s % (n : Int) = r at *
  generalize (n : Int) = m at *
  subst e2
  grind
theorem spread_nil : spread [] = 0 := rfl
/-- no k of the fullest hold less than the level row's -/
theorem level_below {l : List Int} (hs : l.Pairwise (· ≥ ·)) {k : Nat} (hk : k ≤ l.length) : ((level l.length l.sum).take k).sum ≤ (l.take k).sum := by
  rw [level_take hk]
  cases k with
  | zero => simp
  | succ m =>
    have hn : (l.length : Int) ≠ 0 := by omega
    have h0 := Int.emod_nonneg l.sum hn
    have h1 := Int.emod_lt_of_pos l.sum (show 0 < (l.length : Int) by omega)
    rw [lv_sum h0]
    have e2 := Int.mul_ediv_add_emod l.sum l.length
    have hx := getD_at (l := l) (i := m) (by omega)
    generalize l.getD m 0 = x at hx
    have htd : l.take (m + 1) ++ l.drop (m + 1) = l := List.take_append_drop _ _
    have hsum : (l.take (m + 1)).sum + (l.drop (m + 1)).sum = l.sum := by
      rw [← List.sum_append, htd]
    have hp : ∀ i j (a b : Int), i < j → l[i]? = some a → l[j]? = some b → b ≤ a := fun i j a b hij ha hb => by
      obtain ⟨h3, rfl⟩ := List.getElem?_eq_some_iff.mp ha
      obtain ⟨h4, rfl⟩ := List.getElem?_eq_some_iff.mp hb
      exact List.pairwise_iff_getElem.mp hs i j h3 h4 hij
    have g1 : ∀ y ∈ l.take (m + 1), x ≤ y := fun y hy => by
      obtain ⟨i, hi⟩ := List.mem_iff_getElem?.mp hy
      rw [List.getElem?_take] at hi
      split at hi
      · rename_i c
        by_cases e : i = m
        · subst e
          rw [hx] at hi
          have := Option.some.inj hi
          omega
        · exact hp i m y x (by omega) hi hx
      · cases hi
    have g2 : ∀ y ∈ l.drop (m + 1), y ≤ x := fun y hy => by
      obtain ⟨i, hi⟩ := List.mem_iff_getElem?.mp hy
      rw [List.getElem?_drop] at hi
      exact hp m (m + 1 + i) x y (by omega) hx hi
    have s1 := sum_ge g1
    have s2 := sum_le g2
    rw [List.length_take, Nat.min_eq_left (by omega)] at s1
    rw [List.length_drop] at s2
    generalize l.sum / (l.length : Int) = q at *
    generalize l.sum % (l.length : Int) = r at *
    generalize (l.take (m + 1)).sum = T at *
    generalize (l.drop (m + 1)).sum = U at *
    have hd : ((l.length - (m + 1) : Nat) : Int) = (l.length : Int) - ((m + 1 : Nat) : Int) := by omega
    rw [hd] at s2
    have hkn : 0 ≤ (l.length : Int) - ((m + 1 : Nat) : Int) := by omega
    have hk0 : 0 ≤ ((m + 1 : Nat) : Int) := by omega
    generalize ((m + 1 : Nat) : Int) = K at *
    generalize (l.length : Int) = N at *
    by_cases c : q + 1 ≤ x
    · have e4 : K * (q + 1) ≤ K * x := Int.mul_le_mul_of_nonneg_left c hk0
      rw [Int.mul_add, Int.mul_one] at e4
      omega
    · have e4 : (N - K) * x ≤ (N - K) * q := Int.mul_le_mul_of_nonneg_left (by omega) hkn
      rw [Int.sub_mul (c := q)] at e4
      omega
theorem tops_at {l : List Int} {k : Nat} (h : k ≤ l.length) : (tops l)[k]? = some ((sd l).take k).sum := psums_get (by rw [sd_len]; exact h)
theorem tops_level_le {l : List Int} {k : Nat} {x y : Int} (hx : (tops (level l.length l.sum))[k]? = some x) (hy : (tops l)[k]? = some y) : x ≤ y := by
  have hk : k ≤ l.length := by
    have h := (List.getElem?_eq_some_iff.mp hy).1
    rw [tops_len] at h
    omega
  rw [tops_at hk] at hy
  rw [tops_at (by rw [level_len]; exact hk), sd_level] at hx
  have e1 := Option.some.inj hx
  have e2 := Option.some.inj hy
  have h := level_below (sd_sorted l) (k := k) (by rw [sd_len]; exact hk)
  rw [sd_len, perm_sum (sd_perm l)] at h
  omega
theorem rest0 (ms : List Int) : 0 ≤ ms.sum % (ms.length : Int) := by
  cases ms with
  | nil => decide
  | cons a l => exact Int.emod_nonneg _ (by rw [List.length_cons]; omega)
theorem restn (ms : List Int) : min (ms.length : Int) (ms.sum % (ms.length : Int)) = ms.sum % (ms.length : Int) := by
  cases ms with
  | nil => decide
  | cons a l => exact Int.min_eq_right (Int.le_of_lt (Int.emod_lt_of_pos _ (by rw [List.length_cons]; omega)))
theorem spread_level' (ms : List Int) : spread (level ms.length ms.sum) = ms.sum % (ms.length : Int) * ((ms.length : Int) - ms.sum % (ms.length : Int)) := by
  cases ms with
  | nil => decide
  | cons a l => exact spread_level (by rw [List.length_cons]; omega)
/-- one more that holds more than the last -/
theorem more_step {ms : List Int} {i : Nat} (hi : i < ms.length) : min (i : Int) (ms.sum % (ms.length : Int)) + (if decide (lv ms.length ms.sum (ms.length - 1) < lv ms.length ms.sum i) = true then 1 else 0) = min ((i + 1 : Nat) : Int) (ms.sum % (ms.length : Int)) := by
  have h1 := Int.emod_lt_of_pos ms.sum (show 0 < (ms.length : Int) by omega)
  have h0 := rest0 ms
  unfold lv
  rw [if_neg (show ¬ ((ms.length - 1 : Nat) : Int) < ms.sum % (ms.length : Int) by omega)]
  by_cases c : (i : Int) < ms.sum % (ms.length : Int)
  · rw [if_pos c, decide_eq_true (by omega), if_pos rfl]
    omega
  · rw [if_neg c, decide_eq_false (by omega), if_neg Bool.false_ne_true]
    omega
end Pm

set_option Elab.async false
set_option linter.all false
/-! Pg: plain mathematics: gifts, walks, what they do to the tops and to the spread. -/
namespace Pg
open Pm
/-- does the gift (g, t, d) fit the row -/
structure Fits (ns : List Int) (g t d : Int) : Prop where
  d1 : 1 ≤ d
  g0 : 0 ≤ g
  gn : g < (ns.length : Int)
  t0 : 0 ≤ t
  tn : t < (ns.length : Int)
  more : d ≤ ns.getD g.toNat 0 - ns.getD t.toNat 0
def fitsB (ns : List Int) (g t d : Int) : Bool := decide (1 ≤ d) && decide (0 ≤ g) && decide (g < (ns.length : Int)) && decide (0 ≤ t) && decide (t < (ns.length : Int)) && decide (d ≤ ns.getD g.toNat 0 - ns.getD t.toNat 0)
theorem fitsB_iff {ns : List Int} {g t d : Int} : fitsB ns g t d = true ↔ Fits ns g t d := by
  unfold fitsB
  simp only [Bool.and_eq_true, decide_eq_true_eq]
  exact ⟨fun ⟨⟨⟨⟨⟨a, b⟩, c⟩, d⟩, e⟩, f⟩ => ⟨a, b, c, d, e, f⟩, fun ⟨a, b, c, d, e, f⟩ => ⟨⟨⟨⟨⟨a, b⟩, c⟩, d⟩, e⟩, f⟩⟩
theorem fitsB_not {ns : List Int} {g t d : Int} (h : ¬ Fits ns g t d) : fitsB ns g t d = false := by
  cases e : fitsB ns g t d with
  | false => rfl
  | true => exact absurd (fitsB_iff.mp e) h
/-- the row behind the gift -/
def done (ns : List Int) (g t d : Int) : List Int := (ns.set g.toNat (ns.getD g.toNat 0 - d)).set t.toNat (ns.getD t.toNat 0 + d)
theorem done_len (ns : List Int) (g t d : Int) : (done ns g t d).length = ns.length := by unfold done; rw [List.length_set, List.length_set]
theorem Fits.ne {ns : List Int} {g t d : Int} (h : Fits ns g t d) : g.toNat ≠ t.toNat := fun e => by
  have h1 := h.more
  have h2 := h.d1
  rw [e] at h1
  omega
theorem getD_set_ne {l : List Int} {i j : Nat} {x : Int} (h : i ≠ j) : (l.set i x).getD j 0 = l.getD j 0 := by
  rw [List.getD_eq_getElem?_getD, List.getD_eq_getElem?_getD, List.getElem?_set_ne h]
theorem msum_set (f : Int → Int) : ∀ (l : List Int) (i : Nat) (x : Int), i < l.length → ((l.set i x).map f).sum = (l.map f).sum - f (l.getD i 0) + f x
  | [], i, x, h => absurd h (Nat.not_lt_zero _)
  | a :: l, 0, x, _ => by
    show f x + (l.map f).sum = f a + (l.map f).sum - f a + f x
    omega
  | a :: l, i + 1, x, h => by
    have ih := msum_set f l i x (by simpa using h)
    show f a + ((l.set i x).map f).sum = f a + (l.map f).sum - f (l.getD i 0) + f x
    rw [ih]
    omega
/-- what a gift does to a sum over the purses -/
theorem msum_done (f : Int → Int) {ns : List Int} {g t d : Int} (h : Fits ns g t d) : ((done ns g t d).map f).sum = (ns.map f).sum - f (ns.getD g.toNat 0) - f (ns.getD t.toNat 0) + f (ns.getD g.toNat 0 - d) + f (ns.getD t.toNat 0 + d) := by
  have h1 := h.g0
  have h2 := h.gn
  have h3 := h.t0
  have h4 := h.tn
  unfold done
  rw [msum_set f _ _ _ (by rw [List.length_set]; omega), msum_set f _ _ _ (by omega), getD_set_ne h.ne]
  omega
theorem sum_done {ns : List Int} {g t d : Int} (h : Fits ns g t d) : (done ns g t d).sum = ns.sum := by
  have e := msum_done (fun x => x) h
  rw [List.map_id', List.map_id'] at e
  omega
theorem sq_done {ns : List Int} {g t d : Int} (h : Fits ns g t d) : sq (done ns g t d) = sq ns - 2 * d * (ns.getD g.toNat 0 - ns.getD t.toNat 0 - d) := by
  have e := msum_done (fun x => x * x) h
  unfold sq
  rw [e]
  generalize ns.getD g.toNat 0 = a
  generalize ns.getD t.toNat 0 = b
  grind
theorem spread_done {ns : List Int} {g t d : Int} (h : Fits ns g t d) : spread ns - spread (done ns g t d) = 2 * (ns.length : Int) * d * ((ns.getD g.toNat 0 - ns.getD t.toNat 0) - d) := by
  unfold spread
  rw [done_len, sum_done h, sq_done h]
  generalize ns.getD g.toNat 0 = a
  generalize ns.getD t.toNat 0 = b
  generalize sq ns = q
  generalize ns.sum * ns.sum = s
  generalize (ns.length : Int) = n
  grind
/-- what is held above c -/
def ab (c x : Int) : Int := max 0 (x - c)
def F (c : Int) (ns : List Int) : Int := (ns.map (ab c)).sum
theorem F_perm {a b : List Int} (c : Int) (p : a.Perm b) : F c a = F c b := perm_sum (p.map _)
theorem F_app (c : Int) (a b : List Int) : F c (a ++ b) = F c a + F c b := by unfold F; rw [List.map_append, List.sum_append]
theorem F_nonneg (c : Int) : ∀ l : List Int, 0 ≤ F c l
  | [] => by simp [F]
  | x :: l => by
    have ih := F_nonneg c l
    have e : F c (x :: l) = ab c x + F c l := by unfold F; rw [List.map_cons, List.sum_cons]
    unfold ab at e
    omega
theorem F_ge (c : Int) : ∀ l : List Int, l.sum ≤ (l.length : Int) * c + F c l
  | [] => by simp [F]
  | x :: l => by
    have ih := F_ge c l
    have e : F c (x :: l) = ab c x + F c l := by unfold F; rw [List.map_cons, List.sum_cons]
    have e2 : ((l.length + 1 : Nat) : Int) * c = (l.length : Int) * c + c := by
      rw [Int.natCast_add, Int.add_mul]
      show _ + 1 * c = _
      rw [Int.one_mul]
    rw [List.sum_cons, List.length_cons, e, e2]
    unfold ab
    omega
theorem F_above {c : Int} : ∀ {l : List Int}, (∀ x ∈ l, c ≤ x) → F c l = l.sum - (l.length : Int) * c
  | [], _ => by simp [F]
  | x :: l, h => by
    have ih := F_above (c := c) (l := l) fun y hy => h y (List.mem_cons_of_mem _ hy)
    have h1 := h x List.mem_cons_self
    have e : F c (x :: l) = ab c x + F c l := by unfold F; rw [List.map_cons, List.sum_cons]
    have e2 : ((l.length + 1 : Nat) : Int) * c = (l.length : Int) * c + c := by
      rw [Int.natCast_add, Int.add_mul]
      show _ + 1 * c = _
      rw [Int.one_mul]
    rw [List.sum_cons, List.length_cons, e, e2, ih]
    unfold ab
    omega
theorem F_below {c : Int} : ∀ {l : List Int}, (∀ x ∈ l, x ≤ c) → F c l = 0
  | [], _ => by simp [F]
  | x :: l, h => by
    have ih := F_below (c := c) (l := l) fun y hy => h y (List.mem_cons_of_mem _ hy)
    have h1 := h x List.mem_cons_self
    have e : F c (x :: l) = ab c x + F c l := by unfold F; rw [List.map_cons, List.sum_cons]
    rw [e, ih]
    unfold ab
    omega
/-- the k fullest, by what is held above c -/
theorem top_le (c : Int) (l : List Int) {k : Nat} (hk : k ≤ l.length) : (l.take k).sum ≤ (k : Int) * c + F c l := by
  have h1 := F_ge c (l.take k)
  have h2 := F_nonneg c (l.drop k)
  have h3 := F_app c (l.take k) (l.drop k)
  rw [List.take_append_drop] at h3
  rw [List.length_take, Nat.min_eq_left hk] at h1
  omega
theorem sorted_at {l : List Int} (hs : l.Pairwise (· ≥ ·)) {i j : Nat} {a b : Int} (hij : i < j) (ha : l[i]? = some a) (hb : l[j]? = some b) : b ≤ a := by
  obtain ⟨h3, rfl⟩ := List.getElem?_eq_some_iff.mp ha
  obtain ⟨h4, rfl⟩ := List.getElem?_eq_some_iff.mp hb
  exact List.pairwise_iff_getElem.mp hs i j h3 h4 hij
theorem top_eq {l : List Int} (hs : l.Pairwise (· ≥ ·)) {m : Nat} {c : Int} (hc : l[m]? = some c) : (l.take (m + 1)).sum = ((m + 1 : Nat) : Int) * c + F c l := by
  have hm : m < l.length := (List.getElem?_eq_some_iff.mp hc).1
  have g1 : ∀ y ∈ l.take (m + 1), c ≤ y := fun y hy => by
    obtain ⟨i, hi⟩ := List.mem_iff_getElem?.mp hy
    rw [List.getElem?_take] at hi
    split at hi
    · rename_i z
      by_cases e : i = m
      · subst e
        rw [hc] at hi
        have := Option.some.inj hi
        omega
      · exact sorted_at hs (show i < m by omega) hi hc
    · cases hi
  have g2 : ∀ y ∈ l.drop (m + 1), y ≤ c := fun y hy => by
    obtain ⟨i, hi⟩ := List.mem_iff_getElem?.mp hy
    rw [List.getElem?_drop] at hi
    exact sorted_at hs (show m < m + 1 + i by omega) hc hi
  have h1 := F_above g1
  have h2 := F_below g2
  have h3 := F_app c (l.take (m + 1)) (l.drop (m + 1))
  rw [List.take_append_drop] at h3
  rw [List.length_take, Nat.min_eq_left (by omega)] at h1
  omega
/-- majorized: as many, and no more above any level -/
def Le (ms ns : List Int) : Prop := ms.length = ns.length ∧ ∀ c, F c ms ≤ F c ns
theorem Le.refl (a : List Int) : Le a a := ⟨rfl, fun _ => Int.le_refl _⟩
theorem Le.trans {a b c : List Int} (h : Le a b) (k : Le b c) : Le a c := ⟨h.1.trans k.1, fun x => Int.le_trans (h.2 x) (k.2 x)⟩
theorem Le.tops {ms ns : List Int} (h : Le ms ns) {k : Nat} (hk : k ≤ ns.length) : ((sd ms).take k).sum ≤ ((sd ns).take k).sum := by
  cases k with
  | zero => simp
  | succ m =>
    have hx := getD_at (l := sd ns) (i := m) (by rw [sd_len]; omega)
    generalize (sd ns).getD m 0 = c at hx
    have h1 := top_eq (sd_sorted ns) hx
    have h2 := top_le c (sd ms) (k := m + 1) (by rw [sd_len, h.1]; exact hk)
    have h3 := h.2 c
    rw [F_perm c (sd_perm ns)] at h1
    rw [F_perm c (sd_perm ms)] at h2
    omega
theorem Le.of_tops {ms ns : List Int} (hl : ms.length = ns.length) (h : ∀ k, k ≤ ns.length → ((sd ms).take k).sum ≤ ((sd ns).take k).sum) : Le ms ns := by
  refine ⟨hl, fun c => ?_⟩
  -- take k: how many of ms hold more than c
  have hms : ∀ l : List Int, l.Pairwise (· ≥ ·) → ∃ k, k ≤ l.length ∧ F c l = (l.take k).sum - (k : Int) * c := by
    intro l
    induction l with
    | nil => intro _; exact ⟨0, Nat.le_refl _, by simp [F]⟩
    | cons x l ih =>
      intro hp
      obtain ⟨h1, h2⟩ := List.pairwise_cons.mp hp
      by_cases hx : c ≤ x
      · obtain ⟨k, hk, e⟩ := ih h2
        refine ⟨k + 1, by rw [List.length_cons]; omega, ?_⟩
        have e3 : F c (x :: l) = ab c x + F c l := by unfold F; rw [List.map_cons, List.sum_cons]
        have e2 : ((k + 1 : Nat) : Int) * c = (k : Int) * c + c := by
          rw [Int.natCast_add, Int.add_mul]
          show _ + 1 * c = _
          rw [Int.one_mul]
        rw [e3, e, List.take_succ_cons, List.sum_cons, e2]
        unfold ab
        omega
      · refine ⟨0, Nat.zero_le _, ?_⟩
        have e4 : F c (x :: l) = 0 := F_below fun y hy => by
          rcases List.mem_cons.mp hy with rfl | hy
          · omega
          · have h3 := h1 y hy
            omega
        rw [e4]
        simp
  obtain ⟨k, hk, e⟩ := hms _ (sd_sorted ms)
  rw [sd_len] at hk
  rw [F_perm c (sd_perm ms)] at e
  have h2 := top_le c (sd ns) (k := k) (by rw [sd_len]; omega)
  rw [F_perm c (sd_perm ns)] at h2
  have h3 := h k (by omega)
  omega
theorem le_done {ns : List Int} {g t d : Int} (h : Fits ns g t d) : Le (done ns g t d) ns := by
  refine ⟨done_len _ _ _ _, fun c => ?_⟩
  have e := msum_done (ab c) h
  unfold F
  rw [e]
  have h1 := h.more
  have h2 := h.d1
  unfold ab
  omega
theorem le_level (ns : List Int) : Le (level ns.length ns.sum) ns := Le.of_tops (level_len _ _) fun k hk => by
  rw [sd_level]
  have h := level_below (sd_sorted ns) (k := k) (by rw [sd_len]; exact hk)
  rw [sd_len, perm_sum (sd_perm ns)] at h
  exact h
theorem bd_done {n : Nat} {ns : List Int} {g t d : Int} (h : Fits ns g t d) (hb : ∀ z ∈ ns, Px.Bd n z) : ∀ z ∈ done ns g t d, Px.Bd n z := by
  have h1 := h.g0
  have h2 := h.gn
  have h3 := h.t0
  have h4 := h.tn
  have h5 := h.more
  have h6 := h.d1
  have b1 : Px.Bd n (ns.getD g.toNat 0) := hb _ (by
    have e := getD_at (l := ns) (i := g.toNat) (by omega)
    exact List.mem_of_getElem? e)
  have b2 : Px.Bd n (ns.getD t.toNat 0) := hb _ (by
    have e := getD_at (l := ns) (i := t.toNat) (by omega)
    exact List.mem_of_getElem? e)
  intro z hz
  unfold done at hz
  rcases List.mem_or_eq_of_mem_set hz with hz | rfl
  · rcases List.mem_or_eq_of_mem_set hz with hz | rfl
    · exact hb z hz
    · unfold Px.Bd at *
      omega
  · unfold Px.Bd at *
    omega
/-- a list of gifts, one by one -/
abbrev Gift := Int × Int × Int
def walk : List Int → List Gift → Option (List Int)
  | ns, [] => some ns
  | ns, (g, t, d) :: r => if fitsB ns g t d = true then walk (done ns g t d) r else none
theorem walk_app : ∀ (ns : List Int) (a b : List Gift), walk ns (a ++ b) = (walk ns a).bind fun ms => walk ms b
  | ns, [], b => rfl
  | ns, (g, t, d) :: a, b => by
    show (if fitsB ns g t d = true then walk (done ns g t d) (a ++ b) else none) = (if fitsB ns g t d = true then walk (done ns g t d) a else none).bind _
    by_cases h : fitsB ns g t d = true
    · rw [if_pos h, if_pos h]
      exact walk_app _ a b
    · rw [if_neg h, if_neg h]
      rfl
theorem walk_one {ns : List Int} {g t d : Int} (h : Fits ns g t d) : walk ns [(g, t, d)] = some (done ns g t d) := by
  show (if fitsB ns g t d = true then some (done ns g t d) else none) = _
  rw [if_pos (fitsB_iff.mpr h)]
theorem walk_bad {ns : List Int} {g t d : Int} {r : List Gift} (h : ¬ Fits ns g t d) : walk ns ((g, t, d) :: r) = none := by
  show (if fitsB ns g t d = true then walk (done ns g t d) r else none) = none
  rw [if_neg fun z => h (fitsB_iff.mp z)]
theorem walk_snoc {ns ms : List Int} {a : List Gift} {g t d : Int} (h : walk ns a = some ms) (k : Fits ms g t d) : walk ns (a ++ [(g, t, d)]) = some (done ms g t d) := by
  rw [walk_app, h]
  exact walk_one k
theorem walk_stop {ns ms : List Int} {a b : List Gift} {g t d : Int} (h : walk ns a = some ms) (k : ¬ Fits ms g t d) : walk ns (a ++ (g, t, d) :: b) = none := by
  rw [walk_app, h]
  exact walk_bad k
theorem walk_len : ∀ {ns ms : List Int} {a : List Gift}, walk ns a = some ms → ms.length = ns.length
  | ns, ms, [], h => by
    have e : ns = ms := Option.some.inj h
    rw [e]
  | ns, ms, (g, t, d) :: a, h => by
    have h2 : (if fitsB ns g t d = true then walk (done ns g t d) a else none) = some ms := h
    split at h2
    · rw [walk_len h2, done_len]
    · cases h2
theorem walk_le : ∀ {ns ms : List Int} {a : List Gift}, walk ns a = some ms → Le ms ns ∧ ms.sum = ns.sum
  | ns, ms, [], h => by
    have e : ns = ms := Option.some.inj h
    rw [e]
    exact ⟨Le.refl _, rfl⟩
  | ns, ms, (g, t, d) :: a, h => by
    have h2 : (if fitsB ns g t d = true then walk (done ns g t d) a else none) = some ms := h
    split at h2
    · rename_i c
      have f := fitsB_iff.mp c
      have h3 := walk_le h2
      exact ⟨h3.1.trans (le_done f), h3.2.trans (sum_done f)⟩
    · cases h2
end Pg

set_option Elab.async false
set_option linter.all false
set_option maxRecDepth 100000
set_option maxHeartbeats 4000000
/-! Pr: list(reversed(xs)). -/
namespace RT
open PySem PySem.Spec PyProof.Rows L2
section
variable {prog : Program} {w : World} {A : Around} {E : Value → Shared → Prop} {s : Shared}
theorem extend_rev {R : Result → Shared → Prop} {it l : Addr} {items : Array Value} {c₀ : Nat} (hh : A.handled = none) (hit : s.heap.IsRevIter it l ((items.size : Int) - 1)) (hl : s.heap.IsList l items) (hne : l ≠ it) (hn : items.size ≤ sizeLine)
    (S : Addr) (hSi : S ≠ it) (hSl : S ≠ l) (res : Value) (hS : s.heap.get? S = some { cls := .type "list", dict := none, data := .seq #[] c₀, slots := #[] })
    (hR : ∀ (h' : Heap) (tk : Nat) (acc : Array Value) (c' : Nat), (∀ b o, b ≠ it → b ≠ S → s.heap.get? b = some o → h'.get? b = some o) → h'.get? S = some { cls := .type "list", dict := none, data := .seq acc c', slots := #[] } →
      ItemsOf (fun i v => items[items.size - 1 - i]? = some v) acc items.size → R (.ok (.ret res)) { s with heap := h', toks := tk }) :
    wpAny (model prog w) A.in1 (Builtin.List.listExtendWith (.ref S) (.ref it) res)
      (fun fin s' => match fin with | .done f => R (.ok f) s' | .again c' => c'.quiet = true ∧ codeAny (model prog w) A c' R s') (fun e s' => R (.error e) s') s := by
  have W := (Walks.listRev (prog := prog) (w := w) (A := A.in1) hh it l hne items).toS
  have hSf : S ∉ [it, l] := by simp only [List.mem_cons, List.not_mem_nil, or_false, not_or]; exact ⟨hSi, hSl⟩
  have hT : s.TypeIs (.ref it) "list_reverseiterator" := Heap.IsRevIter.typeIs hit
  have h1 : Builtin.List.listSameRef (.ref S) (.ref it) = false := by simp [Builtin.List.listSameRef, hSi]
  unfold Builtin.List.listExtendWith
  refine wpAny_bind (wpAny_typeOf hT ?_)
  rw [if_neg (by rw [h1]; decide)]
  refine wpAny_bind (wpAny_pyIter_revIter hit ?_)
  refine wpAny_bind (wpAny_holding ?_)
  unfold Builtin.List.listLengthHint
  refine wpAny_bind (wpAny_specialOf hT nolen_lri ?_)
  show wpAny _ A.in1 (specialOf (Value.ref it) (Str.ofString "__length_hint__") >>= _) _ _ _
  refine wpAny_bind (wpAny_specialOf hT hint_lri ?_)
  generalize hid : ("list_reverseiterator.__length_hint__" : String) = id0
  wp_delta
  rw [show splitId id0 = some ("list_reverseiterator", "__length_hint__") from by subst hid; decide +kernel]
  subst hid
  refine wpAny_bind (wpAny_isInstance (b := true) hT (by rw [isSubtype_type]; kernel_rfl) ?_)
  refine wpAny_pure ?_
  rw [if_neg (by decide)]
  have e0 : ((items.size : Nat) : Int) - 1 - ((0 : Nat) : Int) = (items.size : Int) - 1 := by omega
  refine wpAny_pure ⟨plainId_quiet F.plain_extend_loop _, codeAny_extend_loopS W hn _ hSf _ items.size 0 _ _ _ rfl (Nat.zero_le _) ⟨Nat.zero_le _, by rw [e0]; exact hit, hl⟩ hS (ItemsOf.nil _) fun s' acc' c' hm hS' hacc => ?_⟩
  rw [Moved.eq_with hm]
  refine hR s'.heap s'.toks acc' c' (fun b o hb hb2 e => hm.heap b o (fun hmem => ?_) e) hS' hacc
  rcases List.mem_cons.mp hmem with e' | hmem
  · exact hb2 e'
  · exact hb (List.mem_singleton.mp hmem)
theorem list_init_rev {R : Result → Shared → Prop} {it l : Addr} {items : Array Value} (hh : A.handled = none) (hit : s.heap.IsRevIter it l ((items.size : Int) - 1)) (hl : s.heap.IsList l items) (hne : l ≠ it) (hn : items.size ≤ sizeLine)
    (S : Addr) (hSi : S ≠ it) (hSl : S ≠ l) (hS : s.heap.get? S = some { cls := .type "list", data := .seq #[] })
    (hR : ∀ (h' : Heap) (tk : Nat) (acc : Array Value) (c' : Nat), (∀ b o, b ≠ it → b ≠ S → s.heap.get? b = some o → h'.get? b = some o) → h'.get? S = some { cls := .type "list", dict := none, data := .seq acc c', slots := #[] } →
      ItemsOf (fun i v => items[items.size - 1 - i]? = some v) acc items.size → R (.ok (.ret .none)) { s with heap := h', toks := tk }) :
    wpAny (model prog w) A.in1 (Builtin.«list.__init__» ⟨[.ref S, .ref it], []⟩)
      (fun fin s' => match fin with | .done f => R (.ok f) s' | .again c' => c'.quiet = true ∧ codeAny (model prog w) A c' R s') (fun e s' => R (.error e) s') s := by
  show wpAny _ _ (do let old ← Builtin.List.listItems (.ref S); Builtin.List.listUpdate (.ref S) (fun _ => #[]); letGo old.toList.reverse; Builtin.List.listExtendWith (.ref S) (.ref it) .none) _ _ s
  refine wpAny_bind ?_
  unfold Builtin.List.listItems
  refine wpAny_bind (wpAny_seqItems hS rfl (wpAny_pure ?_))
  show wpAny _ _ (updateSeq S (fun _ => #[]) >>= fun _ => letGo (#[] : Array Value).toList.reverse >>= fun _ => Builtin.List.listExtendWith (.ref S) (.ref it) .none) _ _ s
  refine wpAny_bind (wpAny_updateSeq hS rfl ?_)
  have hS₂ := Heap.get?_update_self (Obj.mapSeq (fun _ => (#[] : Array Value))) hS rfl
  have oth : ∀ b o, b ≠ S → s.heap.get? b = some o → (s.heap.update S (Obj.mapSeq (fun _ => (#[] : Array Value)))).get? b = some o :=
    fun b o hb e => (Heap.get?_update_other _ _ (Ne.symm hb)).trans e
  refine wpAny_bind (wpAny_letGo ?_)
  have hl2 : (s.heap.update S (Obj.mapSeq (fun _ => (#[] : Array Value)))).IsList l items := by
    obtain ⟨o, ho, r⟩ := hl
    exact ⟨o, oth l o (Ne.symm hSl) ho, r⟩
  refine extend_rev (s := { s with heap := s.heap.update S (Obj.mapSeq (fun _ => (#[] : Array Value))) }) hh (hit.at fun o e => oth it o (Ne.symm hSi) e) hl2 hne hn S hSi hSl .none hS₂ fun h' tk acc' c' hk hS' hacc => ?_
  exact hR h' tk acc' c' (fun b o hb hb2 e => hk b o hb hb2 (oth b o hb2 e)) hS' hacc
theorem call_list_rev {Q : Value → Shared → Prop} {it l : Addr} {items : Array Value} (hh : A.handled = none) (hit : s.heap.IsRevIter it l ((items.size : Int) - 1)) (hl : s.heap.IsList l items) (hne : l ≠ it) (hn : items.size ≤ sizeLine)
    (hQ : ∀ (h' : Heap) (tk : Nat) (acc : Array Value) (c' : Nat), (∀ b o, b ≠ it → s.heap.get? b = some o → h'.get? b = some o) → h'.get? s.heap.objs.size = some { cls := .type "list", dict := none, data := .seq acc c', slots := #[] } →
      ItemsOf (fun i v => items[items.size - 1 - i]? = some v) acc items.size → Q (.ref s.heap.objs.size) { s with heap := h', toks := tk }) :
    wpAny (model prog w) A (call (.type "list") [.ref it]) Q E s := by
  refine callType_codes (Q₁ := fun obj s₁ => obj = .ref s.heap.objs.size ∧ s₁ = { s with heap := s.heap.push { cls := .type "list", data := .seq #[] } }) F.called_list (F.typeCall_list_1 _) F.entry_list_init
    (code_list_new _ ⟨rfl, rfl⟩) fun obj s₁ h₁ => ?_
  obtain ⟨rfl, rfl⟩ := h₁
  have hS : (s.heap.push { cls := .type "list", data := .seq #[] }).get? s.heap.objs.size = some { cls := .type "list", data := .seq #[] } := Heap.get?_push_size _ rfl
  obtain ⟨oi, hoi, _⟩ := id hit
  obtain ⟨ol, hol, _⟩ := id hl
  have hSi : s.heap.objs.size ≠ it := Nat.ne_of_gt (Heap.lt_size hoi)
  have hSl : s.heap.objs.size ≠ l := Nat.ne_of_gt (Heap.lt_size hol)
  refine ⟨⟨_, hS, rfl⟩, F.args_list_init_2 _ _, list_init_rev (A := A.in1) hh (hit.at fun o e => Heap.get?_push_of_some _ e) (hl.push _) hne hn _ hSi hSl hS fun h' tk acc' c' hk hS' hacc => ?_⟩
  exact ⟨rfl, hQ h' tk acc' c' (fun b o hb e => hk b o hb (Nat.ne_of_lt (Heap.lt_size e)) (Heap.get?_push_of_some _ e)) hS' hacc⟩
end
end RT
namespace Px
open PySem PySem.Spec PyProof.Rows L2 Evl
section
variable {X : Cx}
/-- list(reversed(x)), x a list: a new list -/
def tLstRev (K : PySem.W.Frag) (te : TE) : TE := fun σ H Q => te σ H fun v H1 => ∃ (a : Addr) (xs : List V), v = .ref a ∧ SqL K H1 a xs ∧ ∀ q, H1 q = none → Q (.ref q) (upd H1 q (.lst xs.reverse))
theorem pe_lstRev {K : PySem.W.Frag} {e : Expr} {te : TE} {p p2 pos pos2 : Pos} (hc : X.calm = true) (hg : Gl X "list") (hm : X.mg "list" = none) (hg2 : Gl X "reversed") (hm2 : X.mg "reversed" = none) (he : PE X e te) (hK : X.K = K := by rfl)
    (hs : starEach [e] X.env = (false, eval e X.env) :: starEach [] X.env := by rfl)
    (hs2 : starEach [.Call (.Name "reversed" p2) [e] [] pos2] X.env = (false, eval (.Call (.Name "reversed" p2) [e] [] pos2) X.env) :: starEach [] X.env := by rfl) :
    PE X (.Call (.Name "list" p) [.Call (.Name "reversed" p2) [e] [] pos2] [] pos) (tLstRev K te) := by
  subst hK
  refine ⟨fun pins s σ H Q I h => ?_⟩
  refine Call_ (ld_blt I hg hm boot_list (PyProof.Rows.callWith_type1 (args_cons (Call_ (ld_blt I hg2 hm2 PyProof.Rows.boot_reversed (PyProof.Rows.callWith_type1 (args_cons (thn (he.run pins s σ H _ I h) fun u s1 ⟨v, H1, I1, r1, q1⟩ => args_nil ?_) hs) hs rfl))) hs2) hs2 rfl))
  obtain ⟨a, xs, ev, hq, q⟩ := q1
  subst ev
  obtain rfl : u = Value.ref a := r1
  obtain ⟨its, rv, p', hz⟩ := I1.list hq
  refine call_reversed_list p'.isList (args_nil ?_)
  have k0 : ∀ b o, s1.heap.get? b = some o → (s1.heap.push (revObj a ((its.toArray.size : Int) - 1))).get? b = some o := fun b o e => Heap.get?_push_of_some _ e
  have hl := p'.isList
  obtain ⟨ol, hol, _⟩ := id hl
  have hne : a ≠ s1.heap.objs.size := Nat.ne_of_lt (Heap.lt_size hol)
  have hn : its.toArray.size ≤ sizeLine := by rw [List.size_toArray, ← rv.length]; exact hz
  refine RT.call_list_rev (s := { s1 with heap := s1.heap.push (revObj a ((its.toArray.size : Int) - 1)) }) (I1.ok.hd hc) ⟨_, Heap.get?_push_size _ rfl, rfl, rfl⟩ (hl.push _) hne hn fun h' tk acc c' hk hS hi => ?_
  have hsz : s1.heap.objs.size ≤ (s1.heap.push (revObj a ((its.toArray.size : Int) - 1))).objs.size := by
    show s1.heap.objs.size ≤ (s1.heap.objs.push _).size
    rw [Array.size_push]
    exact Nat.le_succ _
  refine ⟨.ref (s1.heap.push (revObj a ((its.toArray.size : Int) - 1))).objs.size, upd H1 (s1.heap.push (revObj a ((its.toArray.size : Int) - 1))).objs.size (.lst xs.reverse), I1.laid (t' := tk) (fun b o e => hk b o (Nat.ne_of_lt (Heap.lt_size e)) (k0 b o e)) hsz
    (show ObjOk X.prog X.w _ _ _ (.lst xs.reverse) from ⟨by rw [List.length_reverse]; exact hz, acc.toList, c', RT.vals_rev rv hi, ?_⟩), rfl, q _ (I1.hok.fresh hsz)⟩
  rw [Array.toArray_toList]
  exact hS
theorem k_lstRev {K : PySem.W.Frag} {σ : L2.St} {H : Hp} {te : TE} {P : V → Hp → Prop} (h : EvK te σ H fun v Hx => ∃ (a : Addr) (xs : List V), v = .ref a ∧ SqL K Hx a xs ∧ ∀ q, Hx q = none → P (.ref q) (upd Hx q (.lst xs.reverse))) : EvK (tLstRev K te) σ H P := fun H1 e Q k =>
  h H1 e _ fun v H2 ⟨Hx, ex, a, xs, ev, hq, hp⟩ => ⟨a, xs, ev, ex_l ex hq, fun q nq => k _ _ ⟨_, Ex.updm ex, hp q (fresh_back ex nq)⟩⟩
end
end Px

set_option Elab.async false
set_option linter.all false
set_option maxRecDepth 100000
set_option maxHeartbeats 4000000
/-! Pq: more of the calculus: comprehensions told by a word, tuples cut and walked, except clauses one after the other. -/
namespace Px
open PySem PySem.Spec PyProof.Rows L2 Evl
theorem blkOk_rel {N : List Str} {outer inner : Scope} {env e0 : Env} {own : List (Str × Nat)} (hd : blkC N (relabel outer e0) inner own = true) (h : relabel outer env = relabel outer e0 := by rfl) : BlkOk N (relabel outer env) inner own := h ▸ blkOk_by hd
theorem boot_ValueError : bootBuiltins "ValueError" = some (.type "ValueError") := by decide +kernel
section
variable {K : PySem.W.Frag} {σ : L2.St} {H H' : Hp} {ta tb tc te tx : TE} {t u : TT} {x y z v : V} {r r' : R2} {P : V → Hp → Prop} {D : Ends} {s s2 w : TS}
theorem r_eqB {a b : Bool} (h : P (.bl (decide (a = b))) H) : RK rEq (.bl a) (.bl b) H P := r_eq ⟨rfl, by
  have e : decide (V.bl a = V.bl b) = decide (a = b) := by
    by_cases c : a = b
    · subst c
      rw [decide_eq_true rfl, decide_eq_true rfl]
    · rw [decide_eq_false c, decide_eq_false fun z => c (V.bl.inj z)]
  rw [e]
  exact h⟩
theorem r_neB {a b : Bool} (h : P (.bl (!decide (a = b))) H) : RK rNe (.bl a) (.bl b) H P := r_ne ⟨rfl, by
  have e : decide (V.bl a = V.bl b) = decide (a = b) := by
    by_cases c : a = b
    · subst c
      rw [decide_eq_true rfl, decide_eq_true rfl]
    · rw [decide_eq_false c, decide_eq_false fun z => c (V.bl.inj z)]
  rw [e]
  exact h⟩
theorem r_eqT {a b : Str} (h : P (.bl (decide (a = b))) H) : RK rEq (.str a) (.str b) H P := r_eq ⟨rfl, by
  have e : decide (V.str a = V.str b) = decide (a = b) := by
    by_cases c : a = b
    · subst c
      rw [decide_eq_true rfl, decide_eq_true rfl]
    · rw [decide_eq_false c, decide_eq_false fun z => c (V.str.inj z)]
  rw [e]
  exact h⟩
theorem r_neT {a b : Str} (h : P (.bl (!decide (a = b))) H) : RK rNe (.str a) (.str b) H P := r_ne ⟨rfl, by
  have e : decide (V.str a = V.str b) = decide (a = b) := by
    by_cases c : a = b
    · subst c
      rw [decide_eq_true rfl, decide_eq_true rfl]
    · rw [decide_eq_false c, decide_eq_false fun z => c (V.str.inj z)]
  rw [e]
  exact h⟩
theorem c_abs {i : Int} (hp : P (.int (if i < 0 then -i else i)) H) : CK (fun xs H Q => ∃ i, xs = [.int i] ∧ Q (.int (if i < 0 then -i else i)) H) [.int i] H P := fun H1 e Q k => ⟨i, rfl, k _ _ ⟨H, e, hp⟩⟩
theorem r_slT {p : Addr} {xs : List V} {lo hi : Option Int} (h : SqT K H p xs) (hw : ¬ (HT.sIx xs.length 0 lo = 0 ∧ HT.sIx xs.length xs.length hi = xs.length)) (hp : ∀ q, H q = none → P (.ref q) (upd H q (.tup (cutV xs lo hi)))) : Kc (rSlT K (.ref p) lo hi) H P := fun H1 e Q k => ⟨p, xs, rfl, ex_t e h, hw, fun q nq => k _ _ ⟨_, Ex.updm e, hp q (fresh_back e nq)⟩⟩
/-- over a tuple that is made on the way -/
theorem gs_forT {j : Nat} (h : EvK te σ H fun v Hx => ∃ (a : Addr) (xs : List V) (Pv : Nat → L2.St → Hp → Prop), v = .ref a ∧ SqT K Hx a xs ∧ Pv 0 σ Hx ∧ (∀ i σ' H', i ≤ xs.length → Pv i σ' H' → SqT K H' a xs) ∧
    (∀ i x σ' H', xs[i]? = some x → Pv i σ' H' → Go s { D with nx := Lp Pv (i + 1), ct := Lp Pv (i + 1), bk := w D } (σ'.set j (some x)) H') ∧ (∀ σ' H', Pv xs.length σ' H' → Go w D σ' H')) : Go (tSeq (tFor (iTup K te) (gName j) s) w) D σ H := fun H1 e =>
  h H1 e _ fun v H2 ⟨Hx, ex, a, xs, Pv, ev, hq, h0, hl, hs, hd⟩ => ⟨a, ev, ⟨xs, ex_t ex hq⟩, for_tup (D := { D with nx := w D }) (Lp Pv) ⟨Hx, ex, h0⟩ (fun i σ' H' hi ⟨Hy, ey, p⟩ => ex_t ey (hl i σ' Hy hi p)) (fun i x σ' H' hi ⟨Hy, ey, p⟩ => hs i x σ' Hy hi p H' ey) (fun σ' H' ⟨Hy, ey, p⟩ => hd σ' Hy p H' ey)⟩

theorem cut_fromN {xs : List V} {k : Nat} (h : k ≤ xs.length) : cutV xs (some (k : Int)) none = xs.drop k := by
  unfold cutV
  rw [show HT.sIx xs.length 0 (some (k : Int)) = min k xs.length from HT.sIx_nat xs.length 0 k, HT.sIx_none, Nat.min_eq_left h]
  exact List.take_of_length_le (by rw [List.length_drop]; omega)
theorem dp_two {h x y : Addr} {ns ms : List Int} (hh : SqL K H h [.ref x, .ref y]) (hx : SqL K H x (ns.map V.int)) (hy : SqL K H y (ms.map V.int)) : Dp K H (.ref h) (.list [.list (ns.map PyData.int), .list (ms.map PyData.int)]) := .lst hh (.cons (dp_ints hx) (.cons (dp_ints hy) .nil))
theorem sh_two (ns ms : List Int) : SeqAt.shaped (.list [.list (ns.map PyData.int), .list (ms.map PyData.int)]) = true := by
  show ((PyData.canLayAll0 (ns.map PyData.int) && (PyData.canLayAll0 (ms.map PyData.int) && true)) && decide (max (PyData.depthAll (ns.map PyData.int) + 1) (max (PyData.depthAll (ms.map PyData.int) + 1) 0) + 1 ≤ 64)) = true
  rw [lay_ints, lay_ints, dep_ints, dep_ints]
  rfl
/-! ### try -/
def tTry (tb : WX → TS) (W : Ends → WX) : TS := fun D σ H => tb (W D) D σ H
theorem gs_try {tb : WX → TS} {W : Ends → WX} (h : Go (tb (W { D with nx := w D })) { D with nx := w D } σ H) : Go (tSeq (tTry tb W) w) D σ H := h
theorem g1_try {tb : WX → TS} {W : Ends → WX} (h : Go (tb (W D)) D σ H) : Go (tTry tb W) D σ H := h
theorem ps_tryAs {X : Cx} {x n : Str} {c : Value} {i : Nat} {body suite : List Stmt} {b₀ : Stmt} {np pos pos' : Pos} {tb : WX → TS} {ts : Addr → Value → Option Addr → TS} {Wout : WX} (hs : X.stack = X.env :: X.outer) (hf : X.env.frame = some X.env.locals) (hN : X.N.Nodup) (hi : X.N[i]? = some n) (hln : X.env.kindOf n = some .local) (hc : Names X x c) (tk : Takes X Wout)
    (hb : ∀ (W : WX) (pn : List (Addr × Obj)) (xe : Value → Shared → Prop), Takes (X.tr pn xe) W → PassesOwn (model X.prog X.w) X.A X.env xe → PSs (X.tr pn xe) body (tb W))
    (hsu : ∀ (a : Addr) (oe : Obj) (cls : Value) (d : Option Addr) (pn : List (Addr × Obj)), Zc cls d oe → (∃ vs, oe.data = .fields vs) → PSs (X.suite a ((a, oe) :: pn)) (b₀ :: suite) (ts a cls d)) (hK : X.K = K := by rfl) :
    PS X (.Try body [.ExceptHandler (some (.Name x np)) (some n) (b₀ :: suite) pos'] [] [] pos) (tTry tb (wAs K c i ts Wout)) := by
  subst hK
  exact ps_try_as hs hf hN hi hln hc tk hb hsu
theorem ps_tryMany {X : Cx} {body : List Stmt} {h₀ : ExceptHandler} {hds : List ExceptHandler} {l : List (Value × (Addr → Value → Option Addr → TS))} {pos : Pos} {tb : WX → TS} {Wout : WX} (hs : X.stack = X.env :: X.outer) (hf : X.env.frame = some X.env.locals) (tk : Takes X Wout)
    (hb : ∀ (W : WX) (pn : List (Addr × Obj)) (xe : Value → Shared → Prop), Takes (X.tr pn xe) W → PassesOwn (model X.prog X.w) X.A X.env xe → PSs (X.tr pn xe) body (tb W))
    (hh : HdsOk X (h₀ :: hds) l) (hK : X.K = K := by rfl) : PS X (.Try body (h₀ :: hds) [] [] pos) (tTry tb (fun D => wMany K Wout D l)) := by
  subst hK
  exact ps_try_many hs hf tk hb hh
/-- the last assignment of a suite of 'except .. as n' (slot k) -/
theorem g1_asgA {i k : Nat} (h : EvK te σ H fun v Hx => Go w D ((σ.set i (some v)).set k none) Hx) : Go (tAsg te (gName i)) { nx := fun σ' H' => Ends.nx { D with nx := w D } (σ'.set k none) H', rt := Ends.rt { D with nx := w D }, bk := fun σ' H' => Ends.bk { D with nx := w D } (σ'.set k none) H', ct := fun σ' H' => Ends.ct { D with nx := w D } (σ'.set k none) H' } σ H := g1_asg h
/-! ### except clauses, one after the other -/
theorem ke_yes {c : Value} {ts : Addr → Value → Option Addr → TS} {Wout : WX} {l : List (Value × (Addr → Value → Option Addr → TS))} {cls : Value} {d : Option Addr} (he : PySem.W.exmOne K cls c = some true)
    (h : ∀ a, H a = none → Go (ts a cls d) D σ H) : KE (WE (wMany K Wout D ((c, ts) :: l)) σ) cls d H := fun H1 e => ⟨true, he, fun _ a na => h a (fresh_back e na) H1 e, fun q => Bool.noConfusion q⟩
theorem ke_no {c : Value} {ts : Addr → Value → Option Addr → TS} {Wout : WX} {l : List (Value × (Addr → Value → Option Addr → TS))} {cls : Value} {d : Option Addr} (he : PySem.W.exmOne K cls c = some false)
    (h : KE (WE (wMany K Wout D l) σ) cls d H) : KE (WE (wMany K Wout D ((c, ts) :: l)) σ) cls d H := fun H1 e => ⟨false, he, fun q => Bool.noConfusion q, fun _ => h H1 e⟩

/-! ### comprehensions told by a word: the list so far at D, the heap that matters -/
theorem k_lcW {g : TG} {tt : TT} {vs : List Nat} {tl : TE} (h : EvK tl σ H fun w Hx => ∃ (a : Addr) (xs : List V) (Pv : Addr → Nat → List V → Hp → Prop), w = .ref a ∧ xs.length ≤ 40000 ∧ SqL K Hx a xs ∧
      (∀ D, Hx D = none → Pv D 0 [] (upd Hx D (.lst []))) ∧ (∀ D i acc Hy, Hx D = none → Pv D i acc Hy → SqL K Hy a xs ∧ acc.length ≤ i ∧ Hy D = some (.lst acc)) ∧
      (∀ D i x acc Hy, Hx D = none → xs[i]? = some x → Pv D i acc Hy → GK g x (wipe σ vs) Hy fun σ2 H2 => wipe σ2 vs = wipe σ vs ∧ EvTK tt σ2 H2 fun b H3 => (b = true → EvK te σ2 H3 fun y H4 => H4 D = some (.lst acc) ∧ Pv D (i + 1) (acc ++ [y]) (upd H4 D (.lst (acc ++ [y])))) ∧ (b = false → Pv D (i + 1) acc H3)) ∧
      (∀ D acc Hy, Hx D = none → Pv D xs.length acc Hy → P (.ref D) Hy)) : EvK (tLc (iList K tl) g tt te vs) σ H P := fun H1 e Q k =>
  h H1 e _ fun w H2 ⟨Hx, ex, a, xs, Pv, ev, hn, hq, h0, hl, hs, hd⟩ => ⟨a, ev, ⟨xs, ex_l ex hq⟩, fun p np => by
    have npx : Hx p = none := fresh_back ex np
    refine lc_list (xs := xs) (fun i H' => ∃ acc Hy, Ex Hy H' ∧ Pv p i acc Hy) ⟨[], _, Ex.updm ex, h0 p npx⟩ (fun i H' _ ⟨acc, Hy, ey, q⟩ => ex_l ey (hl p i acc Hy npx q).1) (fun i x H' hi ⟨acc, Hy, ey, q⟩ => ?_) (fun H' ⟨acc, Hy, ey, q⟩ => k _ _ ⟨Hy, ey, hd p acc Hy npx q⟩)
    have hlt : i < xs.length := (List.getElem?_eq_some_iff.mp hi).1
    obtain ⟨_, hal, haD⟩ := hl p i acc Hy npx q
    refine hs p i x acc Hy npx hi q H' ey _ fun σ2 H3 ⟨Hz, ez, hw, ht⟩ => ⟨hw, ht H3 ez _ fun b H4 ⟨Hu, eu, hT, hF⟩ => ?_⟩
    cases b with
    | true =>
      rw [if_pos rfl]
      exact hT rfl H4 eu _ fun y H5 ⟨Hv, ev, hD, q5⟩ => ⟨acc, ev _ _ hD, sz_lt (by omega), acc ++ [y], _, Ex.updm ev, q5⟩
    | false =>
      rw [if_neg Bool.false_ne_true]
      exact ⟨acc, Hu, eu, hF rfl⟩⟩
theorem k_lcWR {g : TG} {tt : TT} {vs : List Nat} {tl : TA} (h : EvAK tl σ H fun ws Hx => ∃ (n : Int) (Pv : Addr → Nat → List V → Hp → Prop), ws = [.int n] ∧ n ≤ 40000 ∧ 0 ≤ n ∧
      (∀ D, Hx D = none → Pv D 0 [] (upd Hx D (.lst []))) ∧ (∀ D i acc Hy, Hx D = none → Pv D i acc Hy → acc.length ≤ i ∧ Hy D = some (.lst acc)) ∧
      (∀ D (i : Nat) acc Hy, Hx D = none → (i : Int) < n → Pv D i acc Hy → GK g (.int (i : Int)) (wipe σ vs) Hy fun σ2 H2 => wipe σ2 vs = wipe σ vs ∧ EvTK tt σ2 H2 fun b H3 => (b = true → EvK te σ2 H3 fun y H4 => H4 D = some (.lst acc) ∧ Pv D (i + 1) (acc ++ [y]) (upd H4 D (.lst (acc ++ [y])))) ∧ (b = false → Pv D (i + 1) acc H3)) ∧
      (∀ D acc Hy, Hx D = none → Pv D n.toNat acc Hy → P (.ref D) Hy)) : EvK (tLc (iRng1 tl) g tt te vs) σ H P := fun H1 e Q k =>
  h H1 e _ fun w H2 ⟨Hx, ex, n, Pv, ev, hn, hn0, h0, hl, hs, hd⟩ => ⟨n, ev, by omega, by omega, fun p np => by
    have npx : Hx p = none := fresh_back ex np
    refine lc_range (lo := 0) (n := n.toNat) (fun i H' => ∃ acc Hy, Ex Hy H' ∧ Pv p i acc Hy) ⟨[], _, Ex.updm ex, h0 p npx⟩ (fun i H' hi ⟨acc, Hy, ey, q⟩ => ?_) (fun H' ⟨acc, Hy, ey, q⟩ => k _ _ ⟨Hy, ey, hd p acc Hy npx q⟩)
    obtain ⟨hal, haD⟩ := hl p i acc Hy npx q
    have e0 : (0 : Int) + (i : Int) = (i : Int) := Int.zero_add _
    show g (.int ((0 : Int) + (i : Int))) (wipe σ vs) H' _
    rw [e0]
    refine hs p i acc Hy npx (by omega) q H' ey _ fun σ2 H3 ⟨Hz, ez, hw, ht⟩ => ⟨hw, ht H3 ez _ fun b H4 ⟨Hu, eu, hT, hF⟩ => ?_⟩
    cases b with
    | true =>
      rw [if_pos rfl]
      exact hT rfl H4 eu _ fun y H5 ⟨Hv, ev, hD, q5⟩ => ⟨acc, ev _ _ hD, sz_lt (by omega), acc ++ [y], _, Ex.updm ev, q5⟩
    | false =>
      rw [if_neg Bool.false_ne_true]
      exact ⟨acc, Hu, eu, hF rfl⟩⟩
/-- [e for x, y in zip(xs, ys)], the targets names -/
theorem k_lcZ {i j : Nat} {vs : List Nat} {tl : TA} (f : V → V → V) (h : EvAK tl σ H fun ws Hx => ∃ (a b : Addr) (xs ys : List V), ws = [.ref a, .ref b] ∧ xs.length ≤ 40000 ∧ xs.length = ys.length ∧ SqL K Hx a xs ∧ SqL K Hx b ys ∧
      (∀ x y, wipe (((wipe σ vs).set i (some x)).set j (some y)) vs = wipe σ vs) ∧
      (∀ (k : Nat) x y Hz, xs[k]? = some x → ys[k]? = some y → Ex Hx Hz → EvK te (((wipe σ vs).set i (some x)).set j (some y)) Hz fun v Hy => v = f x y ∧ Hy = Hz) ∧ ∀ p, Hx p = none → P (.ref p) (upd Hx p (.lst (List.zipWith f xs ys)))) :
    EvK (tLc (iZip K tl) (gTup K 2 (gCons (gName i) (gCons (gName j) gNil))) tYes te vs) σ H P := fun H1 e Q k =>
  h H1 e _ fun w H2 ⟨Hx, ex, a, b, xs, ys, ev, hn, hxy, hqx, hqy, hw, hs, hd⟩ => ⟨a, b, xs, ys, ev, ex_l ex hqx, ex_l ex hqy, fun p np => by
    have npx : Hx p = none := fresh_back ex np
    refine ⟨fun i m H' => m = xs.length - i ∧ i ≤ xs.length ∧ Ex (upd Hx p (.lst ((List.zipWith f xs ys).take i))) H', ⟨xs.length, rfl, Nat.zero_le _, Ex.updm ex⟩, ?_⟩
    rintro n m H' ⟨rfl, hin, hH⟩
    have qx : SqL K H' a xs := ex_l hH (ex_l (Ex.new npx) hqx)
    have qy : SqL K H' b ys := ex_l hH (ex_l (Ex.new npx) hqy)
    by_cases hlt : n < xs.length
    · have hx : xs[n]? = some xs[n] := List.getElem?_eq_getElem hlt
      have hlt2 : n < ys.length := by omega
      have hy : ys[n]? = some ys[n] := List.getElem?_eq_getElem hlt2
      refine .inr ⟨⟨xs, ys, _, _, qx, qy, hx, hy⟩, fun H'' => Ex (upd Hx p (.lst ((List.zipWith f xs ys).take (n + 1)))) H'', fun H'' p' => ⟨xs.length - (n + 1), by omega, rfl, hlt, p'⟩, fun v H'' yy => ?_⟩
      obtain ⟨T, x', y', rfl, hT, rfl, f1, f2⟩ := yy
      have gx := f1 xs qx
      have gy := f2 ys qy
      have hT2 : (upd Hx p (.lst ((List.zipWith f xs ys).take n))) T = none := fresh_back hH hT
      have ex2 : Ex (upd Hx p (.lst ((List.zipWith f xs ys).take n))) (upd H' T (.tup [x', y'])) := hH.trans (Ex.new hT)
      refine gk_tup2 (K := K) (H := upd H' T (.tup [x', y'])) (st_of upd_same) (gk_name (gk_name (R := fun σ2 H2 => wipe σ2 vs = wipe σ vs ∧ σ2 = ((wipe σ vs).set i (some x')).set j (some y') ∧ H2 = upd H' T (.tup [x', y'])) ⟨hw _ _, rfl, rfl⟩)) _ (Ex.refl _) _ ?_
      rintro σ2 H3 ⟨_, e3, hw2, rfl, rfl⟩
      refine ⟨hw2, ?_⟩
      show te _ H3 _
      refine hs n x' y' (upd Hx p (.lst ((List.zipWith f xs ys).take n))) gx gy (Ex.new npx) H3 (ex2.trans e3) _ ?_
      rintro v H4 ⟨Hy, ey, rfl, rfl⟩
      refine ⟨_, ey p _ upd_same, sz_lt (by rw [List.length_take, List.length_zipWith]; omega), ?_⟩
      have e5 : (List.zipWith f xs ys).take (n + 1) = (List.zipWith f xs ys).take n ++ [f x' y'] := by
        rw [List.take_succ]
        congr 1
        rw [List.getElem?_zipWith, gx, gy]
        rfl
      rw [e5]
      exact Ex.updm (fun c u q => by
        by_cases hc : c = p
        · subst hc
          rw [npx] at q
          cases q
        · exact ey c u (by rw [upd_ne hc]; exact q))
    · have e : n = xs.length := by omega
      subst e
      refine .inl ⟨⟨xs, ys, qx, qy, Or.inl (Nat.le_refl _)⟩, k _ _ ⟨_, hH, ?_⟩⟩
      rw [List.take_of_length_le (by rw [List.length_zipWith]; omega)]
      exact hd p npx⟩
/-! ### more of comprehensions and lists -/
theorem k_lcI {a : Addr} {ns : List Int} {j : Nat} {vs : List Nat} {tl : TE} (g : Int → Int) (h : EvK tl σ H fun w Hx => w = .ref a ∧ SqL K Hx a (ns.map V.int) ∧ ns.length ≤ 40000 ∧ (∀ x, wipe ((wipe σ vs).set j (some x)) vs = wipe σ vs) ∧ (∀ z Hz, z ∈ ns → Ex Hx Hz → EvK te ((wipe σ vs).set j (some (.int z))) Hz fun v Hy => v = .int (g z) ∧ Hy = Hz) ∧ ∀ p, Hx p = none → P (.ref p) (upd Hx p (.lst ((ns.map g).map V.int)))) :
    EvK (tLc (iList K tl) (gName j) tYes te vs) σ H P := k_lcL (a := a) (xs := ns.map V.int) (fun _ v => match v with | .int z => .int (g z) | v => v) (h.imp fun w Hx ⟨h1, h2, h3, h4, h5, h6⟩ => ⟨h1, h2, by rw [List.length_map]; exact h3, h4, fun i x Hz hx ez => by
      rw [List.getElem?_map] at hx
      cases e : ns[i]? with
      | none => rw [e] at hx; cases hx
      | some z =>
        rw [e] at hx
        have ex := Option.some.inj hx
        subst ex
        exact h5 z Hz (List.mem_of_getElem? e) ez, fun p np => by
      have e : (ns.map V.int).mapIdx (fun _ v => match v with | .int z => V.int (g z) | v => v) = (ns.map g).map V.int := by
        apply List.ext_getElem?
        intro i
        rw [List.getElem?_mapIdx, List.getElem?_map, List.getElem?_map, List.getElem?_map]
        cases ns[i]? <;> rfl
      rw [e]
      exact h6 p np⟩)
theorem r_rep {l : Addr} {xs : List V} {n : Nat} (h : H l = some (.lst xs)) (hz : xs.length * n ≤ 100000) (hn : n ≤ 100000) (hp : ∀ p, H p = none → P (.ref p) (upd H p (.lst (List.replicate n xs).flatten))) : RK rRep (.ref l) (.int (n : Int)) H P := fun H1 e Q k =>
  ⟨l, (n : Int), xs, rfl, rfl, e _ _ h, by omega, by omega, by rw [Int.toNat_natCast]; exact sz_of hz, fun p np => by
    rw [Int.toNat_natCast]
    exact k _ _ ⟨_, Ex.updm e, hp p (fresh_back e np)⟩⟩
theorem rep_int (n : Nat) (z : Int) : (List.replicate n [V.int z]).flatten = (List.replicate n z).map V.int := by
  rw [List.flatten_replicate_singleton, List.map_replicate]
theorem k_lstRg (h : EvK ta σ H fun x Hx => ∃ n : Nat, x = .int (n : Int) ∧ n ≤ 100000 ∧ ∀ q, Hx q = none → P (.ref q) (upd Hx q (.lst (((List.range n).map fun (i : Nat) => (i : Int)).map V.int)))) : EvK (tLstRg (tRg1 ta)) σ H P := fun H1 e Q k =>
  h H1 e _ fun x H2 ⟨Hx, ex, n, ev, hn, hp⟩ => ⟨(n : Int), ev, RgOk.of_le (by omega) (by omega) (by omega) (by omega), fun q nq => by
    have e5 : rgV 0 (n : Int) = ((List.range n).map fun (i : Nat) => (i : Int)).map V.int := by
      unfold rgV
      rw [Int.sub_zero, Int.toNat_natCast, List.map_map]
      refine List.map_congr_left fun i _ => ?_
      show V.int ((0 : Int) + (i : Int)) = V.int (i : Int)
      rw [Int.zero_add]
    rw [e5]
    exact k _ _ ⟨_, Ex.updm ex, hp q (fresh_back ex nq)⟩⟩
end
end Px

set_option Elab.async false
set_option linter.all false
set_option maxRecDepth 100000
set_option maxHeartbeats 400000
/-! Pt: plain mathematics of shares: the table behind gifts. -/
namespace Pt
open Pm Pg
structure St where
  cur : List Int
  M : List (List Int)
  s : Int
def ov (cur : List Int) (z : Gift) : Int := cur.getD z.1.toNat 0 - cur.getD z.2.1.toNat 0
def sc (o : Int) (r : List Int) : List Int := r.map fun x => o * x
def bl (a b : List Int) (x y : Int) : List Int := List.zipWith (fun p q => x * p + y * q) a b
def mx (M : List (List Int)) (g t : Nat) (o d : Int) : List (List Int) := ((M.map (sc o)).set g (bl (M.getD g []) (M.getD t []) (o - d) d)).set t (bl (M.getD g []) (M.getD t []) d (o - d))
def step (S : St) (z : Gift) : St := ⟨done S.cur z.1 z.2.1 z.2.2, mx S.M z.1.toNat z.2.1.toNat (ov S.cur z) z.2.2, S.s * ov S.cur z⟩
def ident (n : Nat) : List (List Int) := (List.range n).map fun k => (List.range n).map fun j => if k = j then 1 else 0
def st0 (ns : List Int) : St := ⟨ns, ident ns.length, 1⟩
def st (ns : List Int) (Gs : List Gift) : St := Gs.foldl step (st0 ns)
theorem st_snoc (ns : List Int) (Gs : List Gift) (z : Gift) : st ns (Gs ++ [z]) = step (st ns Gs) z := by
  unfold st
  rw [List.foldl_append]
  rfl
def dot (a b : List Int) : Int := (List.zipWith (fun x y => x * y) a b).sum
theorem bl_len {a b : List Int} {x y : Int} {n : Nat} (ha : a.length = n) (hb : b.length = n) : (bl a b x y).length = n := by
  unfold bl
  rw [List.length_zipWith, ha, hb, Nat.min_self]
theorem sc_sum (o : Int) : ∀ r : List Int, (sc o r).sum = o * r.sum
  | [] => by simp [sc]
  | x :: r => by
    have h := sc_sum o r
    unfold sc at h ⊢
    rw [List.map_cons, List.sum_cons, List.sum_cons, h, Int.mul_add]
theorem bl_sum (x y : Int) : ∀ (a b : List Int), a.length = b.length → (bl a b x y).sum = x * a.sum + y * b.sum
  | [], [], _ => by simp [bl]
  | p :: a, q :: b, h => by
    have ih := bl_sum x y a b (by simpa using h)
    unfold bl at ih ⊢
    rw [List.zipWith_cons_cons, List.sum_cons, ih, List.sum_cons, List.sum_cons]
    grind
  | [], _ :: _, h => by cases h
  | _ :: _, [], h => by cases h
theorem sc_dot (o : Int) : ∀ (r f : List Int), dot (sc o r) f = o * dot r f
  | [], _ => by simp [dot, sc]
  | _ :: _, [] => by simp [dot, sc]
  | x :: r, y :: f => by
    have ih := sc_dot o r f
    unfold dot sc at ih ⊢
    rw [List.map_cons, List.zipWith_cons_cons, List.zipWith_cons_cons, List.sum_cons, List.sum_cons, ih]
    grind
theorem bl_dot (x y : Int) : ∀ (a b f : List Int), a.length = b.length → dot (bl a b x y) f = x * dot a f + y * dot b f
  | [], [], _, _ => by simp [dot, bl]
  | _ :: _, _ :: _, [], _ => by simp [dot]
  | p :: a, q :: b, u :: f, h => by
    have ih := bl_dot x y a b f (by simpa using h)
    unfold dot bl at ih ⊢
    rw [List.zipWith_cons_cons, List.zipWith_cons_cons, List.zipWith_cons_cons, List.zipWith_cons_cons, List.sum_cons, List.sum_cons, List.sum_cons, ih]
    grind
  | [], _ :: _, _, h => by cases h
  | _ :: _, [], _, h => by cases h
theorem sc_at (o : Int) (r : List Int) (j : Nat) : (sc o r).getD j 0 = o * r.getD j 0 := by
  unfold sc
  rw [List.getD_eq_getElem?_getD, List.getD_eq_getElem?_getD, List.getElem?_map]
  cases r[j]? <;> simp
theorem bl_at {a b : List Int} (h : a.length = b.length) (x y : Int) (j : Nat) : (bl a b x y).getD j 0 = x * a.getD j 0 + y * b.getD j 0 := by
  unfold bl
  rw [List.getD_eq_getElem?_getD, List.getD_eq_getElem?_getD, List.getD_eq_getElem?_getD, List.getElem?_zipWith]
  by_cases c : j < a.length
  · rw [List.getElem?_eq_getElem c, List.getElem?_eq_getElem (by omega)]
    rfl
  · rw [List.getElem?_eq_none (by omega), List.getElem?_eq_none (by omega)]
    simp
theorem nn_bound : ∀ {r : List Int}, (∀ x ∈ r, 0 ≤ x) → ∀ x ∈ r, x ≤ r.sum
  | [], _, _, h => nomatch h
  | y :: r, h, x, hx => by
    have hr : ∀ x ∈ r, 0 ≤ x := fun z hz => h z (List.mem_cons_of_mem _ hz)
    have h0 : 0 ≤ r.sum := by
      have h1 := sum_ge (x := 0) hr
      simpa using h1
    have hy := h y List.mem_cons_self
    rw [List.sum_cons]
    rcases List.mem_cons.mp hx with e | e
    · omega
    · have := nn_bound hr x e
      omega
structure Good (first : List Int) (S : St) : Prop where
  curlen : S.cur.length = first.length
  len : S.M.length = first.length
  rlen : ∀ r ∈ S.M, r.length = first.length
  nn : ∀ r ∈ S.M, ∀ x ∈ r, 0 ≤ x
  sum : ∀ r ∈ S.M, r.sum = S.s
  held : ∀ (k : Nat) r, S.M[k]? = some r → dot r first = S.s * S.cur.getD k 0
  col : ∀ j, j < first.length → (S.M.map fun r => r.getD j 0).sum = S.s
  s1 : 1 ≤ S.s
theorem getD_row {M : List (List Int)} {k : Nat} (h : k < M.length) : M[k]? = some (M.getD k []) := by
  rw [List.getD_eq_getElem?_getD, List.getElem?_eq_getElem h]
  rfl
theorem mx_len (M : List (List Int)) (g t : Nat) (o d : Int) : (mx M g t o d).length = M.length := by
  unfold mx
  rw [List.length_set, List.length_set, List.length_map]
/-- the rows of the next table -/
theorem mx_row {M : List (List Int)} {g t : Nat} {o d : Int} {k : Nat} {r : List Int} (hg : g < M.length) (ht : t < M.length) (h : (mx M g t o d)[k]? = some r) :
    (k = t ∧ r = bl (M.getD g []) (M.getD t []) d (o - d)) ∨ (k ≠ t ∧ k = g ∧ r = bl (M.getD g []) (M.getD t []) (o - d) d) ∨ (k ≠ t ∧ k ≠ g ∧ ∃ r0, M[k]? = some r0 ∧ r = sc o r0) := by
  unfold mx at h
  by_cases c : k = t
  · subst c
    rw [List.getElem?_set_self (by rw [List.length_set, List.length_map]; exact ht)] at h
    exact .inl ⟨rfl, (Option.some.inj h).symm⟩
  · rw [List.getElem?_set_ne (Ne.symm c)] at h
    by_cases c2 : k = g
    · subst c2
      rw [List.getElem?_set_self (by rw [List.length_map]; exact hg)] at h
      exact .inr (.inl ⟨c, rfl, (Option.some.inj h).symm⟩)
    · rw [List.getElem?_set_ne (Ne.symm c2), List.getElem?_map] at h
      cases e : M[k]? with
      | none => rw [e] at h; cases h
      | some r0 =>
        rw [e] at h
        exact .inr (.inr ⟨c, c2, r0, rfl, (Option.some.inj h).symm⟩)
theorem map_set_col (f : List Int → Int) (M : List (List Int)) (i : Nat) (r : List Int) : (M.set i r).map f = (M.map f).set i (f r) := List.map_set
theorem set_sum : ∀ (l : List Int) (i : Nat) (x : Int), i < l.length → (l.set i x).sum = l.sum - l.getD i 0 + x := fun l i x h => by
  have e := msum_set (fun y => y) l i x h
  simpa using e
theorem getD_map_col (f : List Int → Int) {M : List (List Int)} {k : Nat} (h : k < M.length) : (M.map f).getD k 0 = f (M.getD k []) := by
  rw [List.getD_eq_getElem?_getD, List.getElem?_map, getD_row h]
  rfl
theorem Good.ov_ge {first : List Int} {S : St} {z : Gift} (h : Good first S) (f : Fits S.cur z.1 z.2.1 z.2.2) : z.2.2 ≤ ov S.cur z := f.more
theorem Good.step {first : List Int} {S : St} {z : Gift} (h : Good first S) (f : Fits S.cur z.1 z.2.1 z.2.2) : Good first (step S z) := by
  obtain ⟨g, t, d⟩ := z
  have f' : Fits S.cur g t d := f
  have hd1 := f'.d1
  have hg : g.toNat < S.M.length := by rw [h.len, ← h.curlen]; have := f'.g0; have := f'.gn; omega
  have ht : t.toNat < S.M.length := by rw [h.len, ← h.curlen]; have := f'.t0; have := f'.tn; omega
  have hne := f'.ne
  have ho : d ≤ ov S.cur (g, t, d) := f'.more
  have hod : ov S.cur (g, t, d) = S.cur.getD g.toNat 0 - S.cur.getD t.toNat 0 := rfl
  show Good first ⟨done S.cur g t d, mx S.M g.toNat t.toNat (ov S.cur (g, t, d)) d, S.s * ov S.cur (g, t, d)⟩
  generalize ov S.cur (g, t, d) = o at ho hod
  have rg := getD_row hg
  have rt := getD_row ht
  have mg := List.mem_of_getElem? rg
  have mt := List.mem_of_getElem? rt
  generalize eA : S.M.getD g.toNat [] = A at rg mg
  generalize eB : S.M.getD t.toNat [] = B at rt mt
  have lA := h.rlen A mg
  have lB := h.rlen B mt
  have s1 := h.s1
  have rows : ∀ r, r ∈ mx S.M g.toNat t.toNat o d → r = bl A B d (o - d) ∨ r = bl A B (o - d) d ∨ ∃ r0 ∈ S.M, r = sc o r0 := fun r hr => by
    obtain ⟨k, hk⟩ := List.mem_iff_getElem?.mp hr
    rcases mx_row hg ht hk with ⟨_, e⟩ | ⟨_, _, e⟩ | ⟨_, _, r0, e0, e⟩
    · rw [eA, eB] at e
      exact .inl e
    · rw [eA, eB] at e
      exact .inr (.inl e)
    · exact .inr (.inr ⟨r0, List.mem_of_getElem? e0, e⟩)
  have bl_nn : ∀ x y : Int, 0 ≤ x → 0 ≤ y → ∀ w ∈ bl A B x y, 0 ≤ w := fun x y hx hy w hw => by
    obtain ⟨k, hk⟩ := List.mem_iff_getElem?.mp hw
    unfold bl at hk
    rw [List.getElem?_zipWith] at hk
    cases ea : A[k]? with
    | none => rw [ea] at hk; simp at hk
    | some a =>
      cases eb : B[k]? with
      | none => rw [ea, eb] at hk; simp at hk
      | some b =>
        rw [ea, eb] at hk
        have e : x * a + y * b = w := Option.some.inj hk
        have h1 := Int.mul_nonneg hx (h.nn A mg a (List.mem_of_getElem? ea))
        have h2 := Int.mul_nonneg hy (h.nn B mt b (List.mem_of_getElem? eb))
        omega
  refine ⟨(done_len _ _ _ _).trans h.curlen, (mx_len _ _ _ _ _).trans h.len, fun r hr => ?_, fun r hr => ?_, fun r hr => ?_, fun k r hk => ?_, fun j hj => ?_, ?_⟩
  · rcases rows r hr with rfl | rfl | ⟨r0, m0, rfl⟩
    · exact bl_len lA lB
    · exact bl_len lA lB
    · unfold sc
      rw [List.length_map]
      exact h.rlen r0 m0
  · rcases rows r hr with rfl | rfl | ⟨r0, m0, rfl⟩
    · exact bl_nn _ _ (by omega) (by omega)
    · exact bl_nn _ _ (by omega) (by omega)
    · intro x hx
      unfold sc at hx
      obtain ⟨y, hy, rfl⟩ := List.mem_map.mp hx
      exact Int.mul_nonneg (by omega) (h.nn r0 m0 y hy)
  · have sA := h.sum A mg
    have sB := h.sum B mt
    show r.sum = S.s * o
    rcases rows r hr with rfl | rfl | ⟨r0, m0, rfl⟩
    · rw [bl_sum _ _ _ _ (lA.trans lB.symm), sA, sB]
      grind
    · rw [bl_sum _ _ _ _ (lA.trans lB.symm), sA, sB]
      grind
    · rw [sc_sum, h.sum r0 m0, Int.mul_comm]
  · have hA := h.held _ _ rg
    have hB := h.held _ _ rt
    have hcl : S.cur.length = S.M.length := h.curlen.trans h.len.symm
    show dot r first = S.s * o * (done S.cur g t d).getD k 0
    unfold done
    rcases mx_row hg ht hk with ⟨rfl, e⟩ | ⟨hkt, rfl, e⟩ | ⟨hkt, hkg, r0, e0, e⟩
    · rw [eA, eB] at e
      rw [e, bl_dot _ _ _ _ _ (lA.trans lB.symm), hA, hB, List.getD_eq_getElem?_getD (l := List.set _ _ _), List.getElem?_set_self (by rw [List.length_set]; omega)]
      show _ = S.s * o * (S.cur.getD t.toNat 0 + d)
      grind
    · rw [eA, eB] at e
      rw [e, bl_dot _ _ _ _ _ (lA.trans lB.symm), hA, hB, List.getD_eq_getElem?_getD (l := List.set _ _ _), List.getElem?_set_ne (Ne.symm hkt), List.getElem?_set_self (by omega)]
      show _ = S.s * o * (S.cur.getD g.toNat 0 - d)
      grind
    · rw [e, sc_dot, h.held k r0 e0, List.getD_eq_getElem?_getD (l := List.set _ _ _), List.getElem?_set_ne (Ne.symm hkt), List.getElem?_set_ne (Ne.symm hkg), ← List.getD_eq_getElem?_getD]
      grind
  · have hc := h.col j hj
    show ((mx S.M g.toNat t.toNat o d).map fun r => r.getD j 0).sum = S.s * o
    unfold mx
    rw [map_set_col, map_set_col, eA, eB, set_sum _ _ _ (by rw [List.length_set, List.length_map, List.length_map]; exact ht), getD_set_ne hne, set_sum _ _ _ (by rw [List.length_map, List.length_map]; exact hg), bl_at (lA.trans lB.symm), bl_at (lA.trans lB.symm)]
    have e1 : ((S.M.map (sc o)).map fun r => r.getD j 0) = sc o (S.M.map fun r => r.getD j 0) := by
      unfold sc
      rw [List.map_map, List.map_map]
      refine List.map_congr_left fun r _ => ?_
      exact sc_at o r j
    rw [e1, sc_sum, hc, sc_at, sc_at, getD_map_col _ hg, getD_map_col _ ht, eA, eB]
    grind
  · show 1 ≤ S.s * o
    have : 0 < S.s * o := Int.mul_pos (by omega) (by omega)
    omega
theorem ident_row {n k : Nat} {r : List Int} (h : (ident n)[k]? = some r) : k < n ∧ r = (List.range n).map fun j => if k = j then 1 else 0 := by
  unfold ident at h
  rw [List.getElem?_map] at h
  by_cases c : k < n
  · rw [List.getElem?_range c] at h
    exact ⟨c, (Option.some.inj h).symm⟩
  · rw [List.getElem?_eq_none (by rw [List.length_range]; omega)] at h
    cases h
theorem delta_sum {n k : Nat} (f : Nat → Int) : ((List.range n).map fun j => if k = j then f j else 0).sum = if k < n then f k else 0 := by
  induction n with
  | zero => rfl
  | succ n ih =>
    rw [rsum_succ, ih]
    by_cases c : k < n
    · rw [if_pos c, if_neg (by omega), if_pos (by omega), Int.add_zero]
    · rw [if_neg c]
      by_cases c2 : k = n
      · subst c2
        rw [if_pos rfl, if_pos (by omega), Int.zero_add]
      · rw [if_neg c2, if_neg (by omega)]
        rfl
theorem dot_range : ∀ (f : List Int) (g : Nat → Int), dot ((List.range f.length).map g) f = ((List.range f.length).map fun j => g j * f.getD j 0).sum
  | [], _ => rfl
  | x :: f, g => by
    have ih := dot_range f (fun j => g (j + 1))
    unfold dot at ih ⊢
    rw [List.length_cons, List.range_succ_eq_map, List.map_cons, List.map_cons, List.map_map, List.map_map, List.zipWith_cons_cons, List.sum_cons, List.sum_cons]
    have e1 : (g ∘ Nat.succ) = fun j => g (j + 1) := rfl
    have e2 : ((fun j => g j * (x :: f).getD j 0) ∘ Nat.succ) = fun j => g (j + 1) * f.getD j 0 := rfl
    rw [e1, e2, ih]
    rfl
theorem good0 (ns : List Int) : Good ns (st0 ns) := by
  have hlen : (ident ns.length).length = ns.length := by unfold ident; rw [List.length_map, List.length_range]
  refine ⟨rfl, hlen, fun r hr => ?_, fun r hr x hx => ?_, fun r hr => ?_, fun k r hk => ?_, fun j hj => ?_, Int.le_refl _⟩
  · obtain ⟨k, hk⟩ := List.mem_iff_getElem?.mp hr
    obtain ⟨_, rfl⟩ := ident_row hk
    rw [List.length_map, List.length_range]
  · obtain ⟨k, hk⟩ := List.mem_iff_getElem?.mp hr
    obtain ⟨_, rfl⟩ := ident_row hk
    obtain ⟨j, _, rfl⟩ := List.mem_map.mp hx
    split <;> decide
  · obtain ⟨k, hk⟩ := List.mem_iff_getElem?.mp hr
    obtain ⟨h1, rfl⟩ := ident_row hk
    show _ = (1 : Int)
    rw [delta_sum (fun _ => 1), if_pos h1]
  · obtain ⟨h1, rfl⟩ := ident_row hk
    show _ = 1 * ns.getD k 0
    rw [dot_range ns fun j => if k = j then 1 else 0, Int.one_mul]
    have e : (fun j => (if k = j then (1 : Int) else 0) * ns.getD j 0) = fun j => if k = j then ns.getD j 0 else 0 := by
      funext j
      split <;> simp
    rw [e, delta_sum fun j => ns.getD j 0, if_pos h1]
  · show ((ident ns.length).map fun r => r.getD j 0).sum = (1 : Int)
    unfold ident
    rw [List.map_map]
    have e : ((fun r : List Int => r.getD j 0) ∘ fun k => (List.range ns.length).map fun j => if k = j then (1 : Int) else 0) = fun k => if j = k then 1 else 0 := by
      funext k
      show ((List.range ns.length).map fun j => if k = j then (1 : Int) else 0).getD j 0 = _
      rw [List.getD_eq_getElem?_getD, List.getElem?_map, List.getElem?_range hj]
      show (if k = j then (1 : Int) else 0) = _
      by_cases c : k = j
      · rw [if_pos c, if_pos c.symm]
      · rw [if_neg c, if_neg (Ne.symm c)]
    rw [e, delta_sum fun _ => 1, if_pos hj]
/-- the columns -/
def colOf (M : List (List Int)) (j : Nat) : List Int := M.map fun r => r.getD j 0
theorem col_mx {M : List (List Int)} {g t : Nat} {o d : Int} {n : Nat} (hl : ∀ r ∈ M, r.length = n) (hg : g < M.length) (ht : t < M.length) (j : Nat) :
    colOf (mx M g t o d) j = ((sc o (colOf M j)).set g ((o - d) * (colOf M j).getD g 0 + d * (colOf M j).getD t 0)).set t (d * (colOf M j).getD g 0 + (o - d) * (colOf M j).getD t 0) := by
  have lA := hl _ (List.mem_of_getElem? (getD_row hg))
  have lB := hl _ (List.mem_of_getElem? (getD_row ht))
  unfold colOf mx
  rw [map_set_col, map_set_col, bl_at (lA.trans lB.symm), bl_at (lA.trans lB.symm), getD_map_col _ hg, getD_map_col _ ht]
  congr 2
  unfold sc
  rw [List.map_map, List.map_map]
  refine List.map_congr_left fun r _ => ?_
  exact sc_at o r j
theorem col_ident {n j : Nat} (hj : j < n) : colOf (ident n) j = (List.replicate n (0 : Int)).set j 1 := by
  apply List.ext_getElem?
  intro k
  unfold colOf ident
  rw [List.map_map, List.getElem?_map]
  by_cases c : k < n
  · rw [List.getElem?_range c]
    by_cases c2 : k = j
    · subst c2
      rw [List.getElem?_set_self (by rw [List.length_replicate]; exact hj)]
      show some (((List.range n).map fun j => if k = j then (1 : Int) else 0).getD k 0) = some 1
      rw [List.getD_eq_getElem?_getD, List.getElem?_map, List.getElem?_range hj]
      show some (if k = k then (1 : Int) else 0) = _
      rw [if_pos rfl]
    · rw [List.getElem?_set_ne (Ne.symm c2), List.getElem?_replicate, if_pos c]
      show some (((List.range n).map fun j => if k = j then (1 : Int) else 0).getD j 0) = some 0
      rw [List.getD_eq_getElem?_getD, List.getElem?_map, List.getElem?_range hj]
      show some (if k = j then (1 : Int) else 0) = _
      rw [if_neg c2]
  · rw [List.getElem?_eq_none (by rw [List.length_range]; omega), List.getElem?_eq_none (by rw [List.length_set, List.length_replicate]; omega)]
    rfl
end Pt

set_option Elab.async false
set_option linter.all false
set_option maxRecDepth 100000
set_option maxHeartbeats 4000000
namespace K05
open PySem PySem.Spec PyProof.Rows L2 Evl Px
def topS (i : Nat) : Stmt := PySem.Challenge.pw_pursewise_k05_shares.main.body.getD i (.Pass ⟨0, 0, 0, 0⟩)
abbrev s_Lcell_at : Stmt := topS 9
abbrev n_Lcell_at : List Str := ["_law_script", "_law_k"]
theorem sc_Lcell_at : FnScope n_Lcell_at ["_law_script", "_law_k"] (defScope s_Lcell_at) := ⟨rfl, rfl, rfl, by decide +kernel, rfl, by decide +kernel, by decide +kernel⟩
abbrev s_Ldone : Stmt := topS 14
abbrev n_Ldone : List Str := ["_law_row_here", "_law_gift_here", "_law_behind"]
theorem sc_Ldone : FnScope n_Ldone ["_law_row_here", "_law_gift_here"] (defScope s_Ldone) := ⟨rfl, rfl, rfl, by decide +kernel, rfl, by decide +kernel, by decide +kernel⟩
abbrev s_Lgift : Stmt := topS 12
abbrev n_Lgift : List Str := ["_law_cell", "_law_row_here", "_law_number", "_law_a", "_law_b", "_law_over", "_law_kind"]
theorem sc_Lgift : FnScope n_Lgift ["_law_cell", "_law_row_here"] (defScope s_Lgift) := ⟨rfl, rfl, rfl, by decide +kernel, rfl, by decide +kernel, by decide +kernel⟩
abbrev s_blended : Stmt := topS 6
abbrev n_blended : List Str := ["ones", "others", "stay", "move", "one", "other"]
theorem sc_blended : FnScope n_blended ["ones", "others", "stay", "move"] (defScope s_blended) := ⟨rfl, rfl, rfl, by decide +kernel, rfl, by decide +kernel, by decide +kernel⟩
abbrev s_fits : Stmt := topS 4
abbrev n_fits : List Str := ["row", "gift", "giver", "taker", "amount", "many"]
theorem sc_fits : FnScope n_fits ["row", "gift"] (defScope s_fits) := ⟨rfl, rfl, rfl, by decide +kernel, rfl, by decide +kernel, by decide +kernel⟩
abbrev s_done : Stmt := topS 5
abbrev n_done : List Str := ["row", "gift", "giver", "taker", "amount", "after"]
theorem sc_done : FnScope n_done ["row", "gift"] (defScope s_done) := ⟨rfl, rfl, rfl, by decide +kernel, rfl, by decide +kernel, by decide +kernel⟩
abbrev s_shares : Stmt := topS 7
abbrev n_shares : List Str := ["row", "gifts", "table", "scale", "after", "gift", "next_one", "giver", "taker", "amount", "apart", "grown", "k", "j", "parts", "part"]
theorem sc_shares : FnScope n_shares ["row", "gifts"] (defScope s_shares) := ⟨rfl, rfl, rfl, by decide +kernel, rfl, by decide +kernel, by decide +kernel⟩
abbrev s_Lrefused : Stmt := topS 20
abbrev n_Lrefused : List Str := ["_law_row_here", "_law_gifts", "e"]
theorem sc_Lrefused : FnScope n_Lrefused ["_law_row_here", "_law_gifts"] (defScope s_Lrefused) := ⟨rfl, rfl, rfl, by decide +kernel, rfl, by decide +kernel, by decide +kernel⟩
abbrev s_Lwholes : Stmt := topS 17
abbrev n_Lwholes : List Str := ["_law_found", "_law_many", "_law_one"]
theorem sc_Lwholes : FnScope n_Lwholes ["_law_found", "_law_many"] (defScope s_Lwholes) := ⟨rfl, rfl, rfl, by decide +kernel, rfl, by decide +kernel, by decide +kernel⟩
abbrev s_Ladds_up : Stmt := topS 18
abbrev n_Ladds_up : List Str := ["_law_table", "_law_scale_here", "_law_first", "_law_last", "_law_columns", "_law_k", "_law_held", "_law_j"]
theorem sc_Ladds_up : FnScope n_Ladds_up ["_law_table", "_law_scale_here", "_law_first", "_law_last"] (defScope s_Ladds_up) := ⟨rfl, rfl, rfl, by decide +kernel, rfl, by decide +kernel, by decide +kernel⟩
abbrev s_Lcolumn : Stmt := topS 15
abbrev n_Lcolumn : List Str := ["_law_rows", "_law_gifts", "_law_at", "_law_held", "_law_k", "_law_a", "_law_b", "_law_amount", "_law_over", "_law_behind", "_law_one"]
theorem sc_Lcolumn : FnScope n_Lcolumn ["_law_rows", "_law_gifts", "_law_at"] (defScope s_Lcolumn) := ⟨rfl, rfl, rfl, by decide +kernel, rfl, by decide +kernel, by decide +kernel⟩
abbrev s_Lscale : Stmt := topS 16
abbrev n_Lscale : List Str := ["_law_rows", "_law_gifts", "_law_scale_here", "_law_k", "_law_giver", "_law_taker", "_law_amount"]
theorem sc_Lscale : FnScope n_Lscale ["_law_rows", "_law_gifts"] (defScope s_Lscale) := ⟨rfl, rfl, rfl, by decide +kernel, rfl, by decide +kernel, by decide +kernel⟩
abbrev s_Lright : Stmt := topS 19
abbrev n_Lright : List Str := ["_law_found", "_law_rows", "_law_gifts", "_law_columns", "_law_at", "_law_one"]
theorem sc_Lright : FnScope n_Lright ["_law_found", "_law_rows", "_law_gifts", "_law_columns"] (defScope s_Lright) := ⟨rfl, rfl, rfl, by decide +kernel, rfl, by decide +kernel, by decide +kernel⟩
abbrev s_Lmixed : Stmt := topS 10
abbrev n_Lmixed : List Str := ["_law_script", "_law_k", "_law_number"]
theorem sc_Lmixed : FnScope n_Lmixed ["_law_script", "_law_k"] (defScope s_Lmixed) := ⟨rfl, rfl, rfl, by decide +kernel, rfl, by decide +kernel, by decide +kernel⟩
abbrev s_Lrow : Stmt := topS 11
abbrev n_Lrow : List Str := ["_law_script", "_law_first", "_law_many", "_law_row_here", "_law_k", "_law_number"]
theorem sc_Lrow : FnScope n_Lrow ["_law_script"] (defScope s_Lrow) := ⟨rfl, rfl, rfl, by decide +kernel, rfl, by decide +kernel, by decide +kernel⟩
abbrev s_Lunfit : Stmt := topS 13
abbrev n_Lunfit : List Str := ["_law_script", "_law_row_here", "_law_many", "_law_kind", "_law_a", "_law_b"]
theorem sc_Lunfit : FnScope n_Lunfit ["_law_script", "_law_row_here"] (defScope s_Lunfit) := ⟨rfl, rfl, rfl, by decide +kernel, rfl, by decide +kernel, by decide +kernel⟩
abbrev s_law : Stmt := topS 21
abbrev n_law : List Str := ["_law_script", "_law_rows", "_law_gifts", "_law_cell", "_law_gift_here", "_law_many", "_law_columns", "_law_row_here", "_law_handed", "_law_found", "_law_one", "_law_at", "_law_k"]
theorem sc_law : FnScope n_law ["_law_script"] (defScope s_law) := ⟨rfl, rfl, rfl, by decide +kernel, rfl, by decide +kernel, by decide +kernel⟩
/-- built-in names that are still so -/
structure Bl (mg : Str → Option Value) : Prop where
  bool_ : mg "bool" = none
  int_ : mg "int" = none
  isinstance_ : mg "isinstance" = none
  len_ : mg "len" = none
  list_ : mg "list" = none
  max_ : mg "max" = none
  min_ : mg "min" = none
  range_ : mg "range" = none
  sum_ : mg "sum" = none
  tuple_ : mg "tuple" = none
  zip_ : mg "zip" = none
/-! ### the script's cells -/
def cellAt (ns : List Int) (k : Int) : Int := if k < (ns.length : Int) then ns.getD k.toNat 0 else 0
def AllBd (n : Nat) (ns : List Int) : Prop := ∀ z ∈ ns, Bd n z
theorem bd0 (n : Nat) : Bd n 0 := Nat.pow_pos (by decide)
theorem AllBd.get {n : Nat} {ns : List Int} (h : AllBd n ns) (k : Nat) : Bd n (ns.getD k 0) := by
  rw [List.getD_eq_getElem?_getD]
  cases e : ns[k]? with
  | none => exact bd0 n
  | some z => exact h z (List.mem_of_getElem? e)
theorem AllBd.mono {n m : Nat} {ns : List Int} (h : AllBd n ns) (k : n ≤ m) : AllBd m ns := fun z hz => (h z hz).mono k
theorem AllBd.snoc {n : Nat} {ns : List Int} {z : Int} (h : AllBd n ns) (hz : Bd n z) : AllBd n (ns ++ [z]) := fun y hy => by
  rcases List.mem_append.mp hy with h1 | h1
  · exact h y h1
  · rw [List.mem_singleton.mp h1]
    exact hz
theorem AllBd.cell {n : Nat} {ns : List Int} (h : AllBd n ns) (k : Int) : Bd n (cellAt ns k) := by
  unfold cellAt
  split
  · exact h.get _
  · exact bd0 n
theorem at_getD {ns : List Int} {k : Int} (h0 : 0 ≤ k) (h : k < (ns.length : Int)) : atI (ns.map V.int) k = some (.int (ns.getD k.toNat 0)) := by
  have hk : k.toNat < ns.length := by omega
  have e : k = (k.toNat : Int) := by omega
  rw [e]
  exact Pm.atI_map (by rw [List.getD_eq_getElem?_getD, Int.toNat_natCast, List.getElem?_eq_getElem hk]; rfl)
/-- the script's k-th cell, or nought -/
def spLcell_at (K : PySem.W.Frag) : Sp := fun vs H Q _ => ∃ (a : Addr) (ns : List Int) (k : Int), vs = [.ref a, .int k] ∧ SqL K H a (ns.map V.int) ∧ 0 ≤ k ∧ KQ Q (.int (cellAt ns k)) H
theorem k_Lcell_at {K : PySem.W.Frag} {H : Hp} {P : V → Hp → Prop} {a : Addr} {ns : List Int} {k : Int} (h : SqL K H a (ns.map V.int)) (h0 : 0 ≤ k) (hp : P (.int (cellAt ns k)) H) : SpK (spLcell_at K) [.ref a, .int k] H P := fun _ H1 e Q q =>
  ⟨a, ns, k, rfl, ex_l e h, h0, fun H2 e2 => q _ _ ⟨H, e.trans e2, hp⟩⟩
theorem ixN_at {n : Nat} {k : Int} (h0 : 0 ≤ k) (h : k < (n : Int)) : ixN n k = some k.toNat := by
  unfold ixN
  rw [if_pos h0, if_pos h]
theorem map_set_int (ns : List Int) (i : Nat) (z : Int) : (ns.map V.int).set i (V.int z) = (ns.set i z).map V.int := List.map_set.symm
theorem refs_at {gs : List Addr} {i : Nat} {x : V} (h : (gs.map V.ref)[i]? = some x) : ∃ g, gs[i]? = some g ∧ x = V.ref g := by
  rw [List.getElem?_map] at h
  cases e : gs[i]? with
  | none => rw [e] at h; cases h
  | some z => rw [e] at h; exact ⟨z, rfl, (Option.some.inj h).symm⟩
theorem List.drop_eq_getElem_cons_of {α : Type} {l : List α} {i : Nat} {z : α} (h : l[i]? = some z) : l.drop i = z :: l.drop (i + 1) := by
  obtain ⟨h1, rfl⟩ := List.getElem?_eq_some_iff.mp h
  exact List.drop_eq_getElem_cons h1

/-- sizes -/
local macro_rules | `(tactic| walk_at "bd") => `(tactic| first
  | assumption
  | ((with_reducible refine Bd.add (n := ?n1) (m := ?m1) ?h1 ?h2); (case h1 => walk_at "bd"); (case h2 => walk_at "bd"))
  | ((with_reducible refine Bd.sub (n := ?n1) (m := ?m1) ?h1 ?h2); (case h1 => walk_at "bd"); (case h2 => walk_at "bd"))
  | ((with_reducible refine Bd.mul (n := ?n1) (m := ?m1) ?h1 ?h2); (case h1 => walk_at "bd"); (case h2 => walk_at "bd"))
  | ((with_reducible refine Bd.mod ?h1 ?h2); (case h1 => walk_at "bd"); (case h2 => first | decide | omega))
  | ((with_reducible refine Bd.div ?h1); (case h1 => walk_at "bd"))
  | exact AllBd.get (by assumption) _
  | exact AllBd.cell (by assumption) _
  | exact bd_lit _)
local macro_rules | `(tactic| walk_at "side") => `(tactic| first
  | ((with_reducible refine Bd.mulX (n := ?bn) (m := ?bm) ?b1 ?b2 ?sl); (case b1 => walk_at "bd"); (case b2 => walk_at "bd"); (case sl => decide +kernel))
  | (show (_ : Int) < _; decide)
  | (show (_ : Int) < _ ∧ _; decide)
  | (show (_ : Int) ≤ _ ∧ _; decide)
  | (show (_ : Int) < _; omega)
  | (show (_ : Int) < _ ∧ _; omega))
/-- one step of the calculus, by the head -/
local macro_rules | `(tactic| walk_at "k") => `(tactic| first
  | ((with_reducible refine k_var (v := ?kw) ?kv ?_); (case kv => exact rfl))
  | with_reducible refine k_c ?_
  | with_reducible refine k_op ?_
  | with_reducible refine k_cb ?_
  | with_reducible refine k_cons ?_
  | with_reducible refine k_nil ?_
  | with_reducible refine k_call ?_
  | with_reducible refine r_I0 ?_
  | ((with_reducible refine r_I' ?_ ?rc); (case rc => walk_at "side"))
  | with_reducible refine kt_test ?_
  | with_reducible refine kt_B ?_
  | with_reducible refine kt_or ?_
  | with_reducible refine kt_and ?_
  | with_reducible refine kt_not ?_
  | with_reducible refine k_tup ?_
  | with_reducible refine k_lst ?_
  | with_reducible refine k_ckw ?_
  | with_reducible refine k_bm ?_
  | with_reducible refine k_bm0 ?_
  | with_reducible refine k_sl ?_
  | with_reducible refine k_part ?_
  | with_reducible refine k_nopart ?_
  | with_reducible refine k_un ?_
  | with_reducible refine k_chain ?_
  | with_reducible refine k_andV ?_
  | with_reducible refine k_orV ?_
  | with_reducible refine k_notV ?_
  | with_reducible refine r_neg ?_
  | with_reducible refine r_eqI ?_
  | with_reducible refine r_neI ?_
  | with_reducible refine ⟨_, rfl, ?_⟩)
/-- a statement -/
local macro_rules | `(tactic| walk_at "s") => `(tactic| first
  | with_reducible refine gs_asg ?_
  | with_reducible refine gs_drop ?_
  | with_reducible refine gs_when ?_
  | with_reducible refine gs_if ?_
  | with_reducible refine gs_par ?_
  | with_reducible refine gs_set ?_
  | with_reducible refine g2_asg ?_
  | with_reducible refine g2_drop ?_
  | with_reducible refine g2_next ?_
  | with_reducible refine g2_par ?_
  | with_reducible refine g2_set ?_
  | with_reducible refine g1_asg ?_
  | with_reducible refine g1_drop ?_
  | with_reducible refine g1_ret ?_
  | with_reducible refine g1_if ?_
  | with_reducible refine g1_par ?_
  | with_reducible refine g1_set ?_)
local macro_rules | `(tactic| walk_at "ks") => `(tactic| repeat walk_at "k")

/-- what the top says of the refusals -/
structure TxtE (K : PySem.W.Frag) (mg : Str → Option Value) (C_PurseError C_NoGift : Addr) : Prop where
  g_PurseError : mg "PurseError" = some (.ref C_PurseError)
  g_NoGift : mg "NoGift" = some (.ref C_NoGift)
  x_NoGift : PySem.W.excIn K C_NoGift [.type "ValueError", .type "Exception", .type "BaseException", .type "object"] "ValueError.__new__" = true
  k_NoGift : PySem.W.keepIn K (.ref C_NoGift) = true
  b_NoGift : PySem.W.subIn K (.ref C_NoGift) (.type "BaseException") = some true
  t_NoGift : PySem.W.typeIn K (.ref C_NoGift) = some (.type "type")
  e_PurseError : PySem.W.exmOne K (.ref C_NoGift) (.ref C_PurseError) = some true
  CE : ExcC K C_NoGift
  n_NoGift : PySem.W.kitOne K (.ref C_NoGift) (.ref C_NoGift) = some true

def spLwholes (K : PySem.W.Frag) : Sp := fun vs H Q _ => ∃ (a : Addr) (ns : List Int), vs = [.ref a, .int (ns.length : Int)] ∧ H a = some (.lst (ns.map V.int)) ∧ KQ Q (.bl true) H
theorem k_Lwholes {K : PySem.W.Frag} {H : Hp} {P : V → Hp → Prop} {a : Addr} {ns : List Int} {m : Int} (hm : m = (ns.length : Int)) (h : H a = some (.lst (ns.map V.int))) (hp : P (.bl true) H) : SpK (spLwholes K) [.ref a, .int m] H P := fun _ H1 e Q q => by
  subst hm
  exact ⟨a, ns, rfl, e _ _ h, fun H2 e2 => q _ _ ⟨H, e.trans e2, hp⟩⟩
def spTops (K : PySem.W.Frag) : Sp := fun vs H Q _ => ∃ (a : Addr) (ns : List Int), vs = [.ref a] ∧ SqL K H a (ns.map V.int) ∧ ns.length ≤ 1000 ∧ ∀ p, H p = none → KQ Q (.ref p) (upd H p (.lst ((Pm.tops ns).map V.int)))
theorem k_tops {K : PySem.W.Frag} {H : Hp} {P : V → Hp → Prop} {a : Addr} {ns : List Int} (h : SqL K H a (ns.map V.int)) (hl : ns.length ≤ 1000) (hp : ∀ p, H p = none → P (.ref p) (upd H p (.lst ((Pm.tops ns).map V.int)))) : SpK (spTops K) [.ref a] H P := fun _ H1 e Q q =>
  ⟨a, ns, rfl, ex_l e h, hl, fun p np H2 e2 => q _ _ ⟨_, (Ex.updm e).trans e2, hp p (fresh_back e np)⟩⟩

/-- a gift's tuple at an address -/
def TupG (K : PySem.W.Frag) (H : Hp) (a : Addr) (z : Pg.Gift) : Prop := SqT K H a [.int z.1, .int z.2.1, .int z.2.2]
def spfits (K : PySem.W.Frag) : Sp := fun vs H Q _ => ∃ (a b : Addr) (ns : List Int) (z : Pg.Gift), vs = [.ref a, .ref b] ∧ SqL K H a (ns.map V.int) ∧ TupG K H b z ∧ KQ Q (.bl (Pg.fitsB ns z.1 z.2.1 z.2.2)) H
theorem k_fits {K : PySem.W.Frag} {H : Hp} {P : V → Hp → Prop} {a b : Addr} {ns : List Int} {z : Pg.Gift} (h : SqL K H a (ns.map V.int)) (hz : TupG K H b z) (hp : P (.bl (Pg.fitsB ns z.1 z.2.1 z.2.2)) H) : SpK (spfits K) [.ref a, .ref b] H P := fun _ H1 e Q q =>
  ⟨a, b, ns, z, rfl, ex_l e h, ex_t e hz, fun H2 e2 => q _ _ ⟨H, e.trans e2, hp⟩⟩
def spdone (K : PySem.W.Frag) (C : Addr) : Sp := fun vs H Q E => ∃ (a b : Addr) (ns : List Int) (z : Pg.Gift), vs = [.ref a, .ref b] ∧ SqL K H a (ns.map V.int) ∧ TupG K H b z ∧
  (¬ Pg.Fits ns z.1 z.2.1 z.2.2 → KE E (.ref C) none H) ∧ (Pg.Fits ns z.1 z.2.1 z.2.2 → ∀ p, H p = none → KQ Q (.ref p) (upd H p (.lst ((Pg.done ns z.1 z.2.1 z.2.2).map V.int))))
theorem k_done {K : PySem.W.Frag} {C : Addr} {E : XK} {H : Hp} {P : V → Hp → Prop} {a b : Addr} {ns : List Int} {z : Pg.Gift} (h : SqL K H a (ns.map V.int)) (hz : TupG K H b z) (he : ¬ Pg.Fits ns z.1 z.2.1 z.2.2 → KE E (.ref C) none H)
    (hp : Pg.Fits ns z.1 z.2.1 z.2.2 → ∀ p, H p = none → P (.ref p) (upd H p (.lst ((Pg.done ns z.1 z.2.1 z.2.2).map V.int)))) : Kc (fun H Q => spdone K C [.ref a, .ref b] H Q E) H P := fun H1 e Q q =>
  ⟨a, b, ns, z, rfl, ex_l e h, ex_t e hz, fun n => (he n).up e, fun y p np H2 e2 => q _ _ ⟨_, (Ex.updm e).trans e2, hp y p (fresh_back e np)⟩⟩
/-- a list of gifts -/
structure GfL (K : PySem.W.Frag) (H : Hp) (a : Addr) (gs : List Addr) (Gs : List Pg.Gift) : Prop where
  lst : SqL K H a (gs.map V.ref)
  len : gs.length = Gs.length
  tup : ∀ (i : Nat) g z, gs[i]? = some g → Gs[i]? = some z → TupG K H g z
theorem GfL.up {K : PySem.W.Frag} {H H' : Hp} {a : Addr} {gs : List Addr} {Gs : List Pg.Gift} (h : GfL K H a gs Gs) (e : Ex H H') : GfL K H' a gs Gs := ⟨ex_l e h.lst, h.len, fun i g z x y => ex_t e (h.tup i g z x y)⟩
def spwalked (K : PySem.W.Frag) (C : Addr) : Sp := fun vs H Q E => ∃ (a b : Addr) (ns : List Int) (gs : List Addr) (Gs : List Pg.Gift), vs = [.ref a, .ref b] ∧ SqL K H a (ns.map V.int) ∧ GfL K H b gs Gs ∧
  (Pg.walk ns Gs = none → KE E (.ref C) none H) ∧ (∀ ms, Pg.walk ns Gs = some ms → ∀ p, H p = none → KQ Q (.ref p) (upd H p (.lst (ms.map V.int))))
theorem k_walked {K : PySem.W.Frag} {C : Addr} {E : XK} {H : Hp} {P : V → Hp → Prop} {a b : Addr} {ns : List Int} {gs : List Addr} {Gs : List Pg.Gift} (h : SqL K H a (ns.map V.int)) (hz : GfL K H b gs Gs) (he : Pg.walk ns Gs = none → KE E (.ref C) none H)
    (hp : ∀ ms, Pg.walk ns Gs = some ms → ∀ p, H p = none → P (.ref p) (upd H p (.lst (ms.map V.int)))) : Kc (fun H Q => spwalked K C [.ref a, .ref b] H Q E) H P := fun H1 e Q q =>
  ⟨a, b, ns, gs, Gs, rfl, ex_l e h, hz.up e, fun n => (he n).up e, fun ms y p np H2 e2 => q _ _ ⟨_, (Ex.updm e).trans e2, hp ms y p (fresh_back e np)⟩⟩

def spLmixed (K : PySem.W.Frag) : Sp := fun vs H Q _ => ∃ (a : Addr) (ns : List Int) (k : Int), vs = [.ref a, .int k] ∧ SqL K H a (ns.map V.int) ∧ AllBd 1048576 ns ∧ 0 ≤ k ∧ Bd 10 k ∧ ∀ z, Bd 600 z → KQ Q (.int z) H
theorem k_Lmixed {K : PySem.W.Frag} {H : Hp} {P : V → Hp → Prop} {a : Addr} {ns : List Int} {k : Int} (h : SqL K H a (ns.map V.int)) (hb : AllBd 1048576 ns) (h0 : 0 ≤ k) (hk : Bd 10 k) (hp : ∀ z, Bd 600 z → P (.int z) H) : SpK (spLmixed K) [.ref a, .int k] H P := fun _ H1 e Q q =>
  ⟨a, ns, k, rfl, ex_l e h, hb, h0, hk, fun z hz H2 e2 => q _ _ ⟨H, e.trans e2, hp z hz⟩⟩
/-- a new row of at most 60 -/
def spLrow (K : PySem.W.Frag) : Sp := fun vs H Q _ => ∃ (a : Addr) (ns : List Int), vs = [.ref a] ∧ SqL K H a (ns.map V.int) ∧ AllBd 1048576 ns ∧ ∀ (ms : List Int) p, ms.length ≤ 60 → AllBd 210 ms → H p = none → KQ Q (.ref p) (upd H p (.lst (ms.map V.int)))
theorem k_Lrow {K : PySem.W.Frag} {H : Hp} {P : V → Hp → Prop} {a : Addr} {ns : List Int} (h : SqL K H a (ns.map V.int)) (hb : AllBd 1048576 ns) (hp : ∀ (ms : List Int) p, ms.length ≤ 60 → AllBd 210 ms → H p = none → P (.ref p) (upd H p (.lst (ms.map V.int)))) : SpK (spLrow K) [.ref a] H P := fun _ H1 e Q q =>
  ⟨a, ns, rfl, ex_l e h, hb, fun ms p hm hb2 np H2 e2 => q _ _ ⟨_, (Ex.updm e).trans e2, hp ms p hm hb2 (fresh_back e np)⟩⟩
/-- none, or a new gift that fits -/
def spLgift (K : PySem.W.Frag) : Sp := fun vs H Q _ => ∃ (c : Int) (a : Addr) (ns : List Int), vs = [.int c, .ref a] ∧ SqL K H a (ns.map V.int) ∧ ns.length ≤ 100 ∧ KQ Q .non H ∧ ∀ g t d p, Pg.Fits ns g t d → H p = none → KQ Q (.ref p) (upd H p (.tup [.int g, .int t, .int d]))
theorem k_Lgift {K : PySem.W.Frag} {H : Hp} {P : V → Hp → Prop} {c : Int} {a : Addr} {ns : List Int} (h : SqL K H a (ns.map V.int)) (hl : ns.length ≤ 100) (h0 : P .non H) (hp : ∀ g t d p, Pg.Fits ns g t d → H p = none → P (.ref p) (upd H p (.tup [.int g, .int t, .int d]))) : SpK (spLgift K) [.int c, .ref a] H P := fun _ H1 e Q q =>
  ⟨c, a, ns, rfl, ex_l e h, hl, fun H2 e2 => q _ _ ⟨_, e.trans e2, h0⟩, fun g t d p f np H2 e2 => q _ _ ⟨_, (Ex.updm e).trans e2, hp g t d p f (fresh_back e np)⟩⟩
def spLdone (K : PySem.W.Frag) : Sp := fun vs H Q _ => ∃ (a b : Addr) (ns : List Int) (z : Pg.Gift), vs = [.ref a, .ref b] ∧ SqL K H a (ns.map V.int) ∧ TupG K H b z ∧ Pg.Fits ns z.1 z.2.1 z.2.2 ∧ ∀ p, H p = none → KQ Q (.ref p) (upd H p (.lst ((Pg.done ns z.1 z.2.1 z.2.2).map V.int)))
theorem k_Ldone {K : PySem.W.Frag} {H : Hp} {P : V → Hp → Prop} {a b : Addr} {ns : List Int} {z : Pg.Gift} (h : SqL K H a (ns.map V.int)) (hz : TupG K H b z) (f : Pg.Fits ns z.1 z.2.1 z.2.2) (hp : ∀ p, H p = none → P (.ref p) (upd H p (.lst ((Pg.done ns z.1 z.2.1 z.2.2).map V.int)))) : SpK (spLdone K) [.ref a, .ref b] H P := fun _ H1 e Q q =>
  ⟨a, b, ns, z, rfl, ex_l e h, ex_t e hz, f, fun p np H2 e2 => q _ _ ⟨_, (Ex.updm e).trans e2, hp p (fresh_back e np)⟩⟩
/-- a new gift that doesn't fit -/
def spLunfit (K : PySem.W.Frag) : Sp := fun vs H Q _ => ∃ (a b : Addr) (ss ns : List Int), vs = [.ref a, .ref b] ∧ SqL K H a (ss.map V.int) ∧ SqL K H b (ns.map V.int) ∧ ns.length ≤ 100 ∧ ∀ g t d p, ¬ Pg.Fits ns g t d → H p = none → KQ Q (.ref p) (upd H p (.tup [.int g, .int t, .int d]))
theorem k_Lunfit {K : PySem.W.Frag} {H : Hp} {P : V → Hp → Prop} {a b : Addr} {ss ns : List Int} (h : SqL K H a (ss.map V.int)) (h2 : SqL K H b (ns.map V.int)) (hl : ns.length ≤ 100) (hp : ∀ g t d p, ¬ Pg.Fits ns g t d → H p = none → P (.ref p) (upd H p (.tup [.int g, .int t, .int d]))) : SpK (spLunfit K) [.ref a, .ref b] H P := fun _ H1 e Q q =>
  ⟨a, b, ss, ns, rfl, ex_l e h, ex_l e h2, hl, fun g t d p f np H2 e2 => q _ _ ⟨_, (Ex.updm e).trans e2, hp g t d p f (fresh_back e np)⟩⟩

/-- rows, each the one ahead behind its gift -/
structure Chain (Ls : List (List Int)) (Gs : List Pg.Gift) : Prop where
  len : Ls.length = Gs.length + 1
  step : ∀ (i : Nat) l m z, Ls[i]? = some l → Ls[i + 1]? = some m → Gs[i]? = some z → Pg.Fits l z.1 z.2.1 z.2.2 ∧ m = Pg.done l z.1 z.2.1 z.2.2
structure RwL (K : PySem.W.Frag) (H : Hp) (a : Addr) (rs : List Addr) (Ls : List (List Int)) : Prop where
  lst : SqL K H a (rs.map V.ref)
  len : rs.length = Ls.length
  row : ∀ (i : Nat) r l, rs[i]? = some r → Ls[i]? = some l → SqL K H r (l.map V.int)
theorem RwL.up {K : PySem.W.Frag} {H H' : Hp} {a : Addr} {rs : List Addr} {Ls : List (List Int)} (h : RwL K H a rs Ls) (e : Ex H H') : RwL K H' a rs Ls := ⟨ex_l e h.lst, h.len, fun i g z x y => ex_l e (h.row i g z x y)⟩

theorem Chain.walk {Ls : List (List Int)} {Gs : List Pg.Gift} {l0 : List Int} (h : Chain Ls Gs) (h0 : Ls[0]? = some l0) : ∀ j, j ≤ Gs.length → Pg.walk l0 (Gs.take j) = Ls[j]?
  | 0, _ => by
    rw [h0]
    rfl
  | j + 1, hj => by
    have ih := h.walk h0 j (by omega)
    have hL := h.len
    obtain ⟨z, hz⟩ : ∃ z, Gs[j]? = some z := ⟨_, List.getElem?_eq_getElem (by omega)⟩
    obtain ⟨l, hl⟩ : ∃ l, Ls[j]? = some l := ⟨_, List.getElem?_eq_getElem (by omega)⟩
    obtain ⟨m, hm⟩ : ∃ m, Ls[j + 1]? = some m := ⟨_, List.getElem?_eq_getElem (by omega)⟩
    obtain ⟨f, e⟩ := h.step j l m z hl hm hz
    rw [hl] at ih
    rw [Pm.take_more hz, hm, e]
    exact Pg.walk_snoc ih f
theorem Chain.snoc {Ls : List (List Int)} {Gs : List Pg.Gift} {l : List Int} {z : Pg.Gift} (h : Chain Ls Gs) (hl : Ls[Gs.length]? = some l) (f : Pg.Fits l z.1 z.2.1 z.2.2) : Chain (Ls ++ [Pg.done l z.1 z.2.1 z.2.2]) (Gs ++ [z]) := by
  have hL := h.len
  refine ⟨by rw [List.length_append, List.length_append, hL]; rfl, fun i x y u hx hy hu => ?_⟩
  by_cases c : i < Gs.length
  · rw [List.getElem?_append_left (by omega)] at hx hy hu
    exact h.step i x y u hx hy hu
  · have hi : i = Gs.length := by
      have h1 := (List.getElem?_eq_some_iff.mp hu).1
      rw [List.length_append] at h1
      simp at h1
      omega
    subst hi
    rw [List.getElem?_append_left (by omega), hl] at hx
    rw [List.getElem?_append_right (by omega), hL, Nat.sub_self] at hy
    rw [List.getElem?_append_right (by omega), Nat.sub_self] at hu
    have e1 := Option.some.inj hx
    have e2 : Pg.done l z.1 z.2.1 z.2.2 = y := Option.some.inj hy
    have e3 : z = u := Option.some.inj hu
    subst e1 e2 e3
    exact ⟨f, rfl⟩
/-- the law's own lists while it draws gifts -/
structure LawSt (H : Hp) (R G c : Addr) (rs gs : List Addr) (Ls : List (List Int)) (Gs : List Pg.Gift) (cs : List Int) : Prop where
  hR : H R = some (.lst (rs.map V.ref))
  hG : H G = some (.lst (gs.map V.ref))
  hc : H c = some (.lst (cs.map V.int))
  RG : R ≠ G
  cR : c ≠ R
  cG : c ≠ G
  rl : rs.length = Ls.length
  gl : gs.length = Gs.length
  row : ∀ (i : Nat) r l, rs[i]? = some r → Ls[i]? = some l → H r = some (.lst (l.map V.int)) ∧ r ≠ R ∧ r ≠ G
  tup : ∀ (i : Nat) g z, gs[i]? = some g → Gs[i]? = some z → H g = some (.tup [.int z.1, .int z.2.1, .int z.2.2])
  ch : Chain Ls Gs
theorem snoc_at {α : Type} {l : List α} {x : α} {i : Nat} {y : α} (h : (l ++ [x])[i]? = some y) : (i < l.length ∧ l[i]? = some y) ∨ (i = l.length ∧ y = x) := by
  by_cases c : i < l.length
  · rw [List.getElem?_append_left c] at h
    exact .inl ⟨c, h⟩
  · have hi : i = l.length := by
      have h1 := (List.getElem?_eq_some_iff.mp h).1
      rw [List.length_append] at h1
      simp at h1
      omega
    subst hi
    rw [List.getElem?_append_right (Nat.le_refl _), Nat.sub_self] at h
    exact .inr ⟨rfl, (Option.some.inj h).symm⟩
/-- one more gift and the row behind it -/
theorem LawSt.more {H : Hp} {R G c p q : Addr} {rs gs : List Addr} {Ls : List (List Int)} {Gs : List Pg.Gift} {cs l : List Int} {z : Pg.Gift} (S : LawSt H R G c rs gs Ls Gs cs) (hl : Ls[Gs.length]? = some l) (f : Pg.Fits l z.1 z.2.1 z.2.2) (np : H p = none)
    (nq : (upd (upd H p (.tup [.int z.1, .int z.2.1, .int z.2.2])) G (.lst (gs.map V.ref ++ [V.ref p]))) q = none) :
    LawSt (upd (upd (upd (upd H p (.tup [.int z.1, .int z.2.1, .int z.2.2])) G (.lst (gs.map V.ref ++ [V.ref p]))) q (.lst ((Pg.done l z.1 z.2.1 z.2.2).map V.int))) R (.lst (rs.map V.ref ++ [V.ref q]))) R G c (rs ++ [q]) (gs ++ [p]) (Ls ++ [Pg.done l z.1 z.2.1 z.2.2]) (Gs ++ [z]) cs := by
  have hpR : R ≠ p := ne_of_none S.hR np
  have hpG : G ≠ p := ne_of_none S.hG np
  have hpc : c ≠ p := ne_of_none S.hc np
  have hqG : q ≠ G := fun e => by
    subst e
    rw [upd_same] at nq
    cases nq
  have nq1 : (upd H p (.tup [.int z.1, .int z.2.1, .int z.2.2])) q = none := by
    rw [upd_ne hqG] at nq
    exact nq
  obtain ⟨nq0, hqp⟩ := none_of_up nq1
  have hqR : R ≠ q := ne_of_none S.hR nq0
  have hqc : c ≠ q := ne_of_none S.hc nq0
  have old : ∀ x u, H x = some u → x ≠ R → x ≠ G → (upd (upd (upd (upd H p (.tup [.int z.1, .int z.2.1, .int z.2.2])) G (.lst (gs.map V.ref ++ [V.ref p]))) q (.lst ((Pg.done l z.1 z.2.1 z.2.2).map V.int))) R (.lst (rs.map V.ref ++ [V.ref q]))) x = some u := fun x u hx h1 h2 => by
    rw [upd_ne h1, upd_ne (ne_of_none hx nq0), upd_ne h2, upd_ne (ne_of_none hx np)]
    exact hx
  refine ⟨?_, ?_, old _ _ S.hc S.cR S.cG, S.RG, S.cR, S.cG, ?_, ?_, fun i r m hr hm => ?_, fun i g u hg hu => ?_, S.ch.snoc hl f⟩
  · rw [upd_same, List.map_append]
    rfl
  · rw [upd_ne S.RG.symm, upd_ne hqG.symm, upd_same, List.map_append]
    rfl
  · rw [List.length_append, List.length_append, S.rl]
    rfl
  · rw [List.length_append, List.length_append, S.gl]
    rfl
  · rcases snoc_at hr with ⟨h1, h2⟩ | ⟨h1, h2⟩
    · rcases snoc_at hm with ⟨h3, h4⟩ | ⟨h3, h4⟩
      · obtain ⟨k1, k2, k3⟩ := S.row i r m h2 h4
        exact ⟨old _ _ k1 k2 k3, k2, k3⟩
      · rw [h3, S.rl] at h1
        omega
    · rcases snoc_at hm with ⟨h3, h4⟩ | ⟨h3, h4⟩
      · rw [h1, S.rl] at h3
        omega
      · subst h2 h4
        refine ⟨?_, hqR.symm, hqG⟩
        rw [upd_ne hqR.symm, upd_same]
  · rcases snoc_at hg with ⟨h1, h2⟩ | ⟨h1, h2⟩
    · rcases snoc_at hu with ⟨h3, h4⟩ | ⟨h3, h4⟩
      · have k := S.tup i g u h2 h4
        refine old _ _ k (fun e => ?_) fun e => ?_
        · subst e
          rw [S.hR] at k
          cases k
        · subst e
          rw [S.hG] at k
          cases k
      · rw [h3, S.gl] at h1
        omega
    · rcases snoc_at hu with ⟨h3, h4⟩ | ⟨h3, h4⟩
      · rw [h1, S.gl] at h3
        omega
      · subst h2 h4
        rw [upd_ne hpR.symm, upd_ne hqp.symm, upd_ne hpG.symm, upd_same]
theorem LawSt.rwl {K : PySem.W.Frag} {H : Hp} {R G c : Addr} {rs gs : List Addr} {Ls : List (List Int)} {Gs : List Pg.Gift} {cs : List Int} (S : LawSt H R G c rs gs Ls Gs cs) : RwL K H R rs Ls := ⟨sq_of S.hR, S.rl, fun i r l h1 h2 => sq_of (S.row i r l h1 h2).1⟩
theorem LawSt.gfl {K : PySem.W.Frag} {H : Hp} {R G c : Addr} {rs gs : List Addr} {Ls : List (List Int)} {Gs : List Pg.Gift} {cs : List Int} (S : LawSt H R G c rs gs Ls Gs cs) : GfL K H G gs Gs := ⟨sq_of S.hG, S.gl, fun i g z h1 h2 => st_of (S.tup i g z h1 h2)⟩
theorem dpa_gifts {K : PySem.W.Frag} {H : Hp} : ∀ {gs : List Addr} {Gs : List Pg.Gift}, gs.length = Gs.length → (∀ (i : Nat) g z, gs[i]? = some g → Gs[i]? = some z → TupG K H g z) → DpAll K H (gs.map V.ref) (Gs.map fun z => PyData.tuple [.int z.1, .int z.2.1, .int z.2.2])
  | [], [], _, _ => .nil
  | g :: gs, z :: Gs, h, k => .cons (.tup (k 0 g z rfl rfl) (.cons (.int _) (.cons (.int _) (.cons (.int _) .nil)))) (dpa_gifts (by simpa using h) fun i x y hx hy => k (i + 1) x y hx hy)
  | [], _ :: _, h, _ => by cases h
  | _ :: _, [], h, _ => by cases h
theorem dp_gifts {K : PySem.W.Frag} {H : Hp} {a : Addr} {gs : List Addr} {Gs : List Pg.Gift} (h : GfL K H a gs Gs) : Dp K H (.ref a) (.list (Gs.map fun z => PyData.tuple [.int z.1, .int z.2.1, .int z.2.2])) := .lst h.lst (dpa_gifts h.len h.tup)
theorem lay_gifts : ∀ Gs : List Pg.Gift, PyData.canLayAll0 (Gs.map fun z => PyData.tuple [.int z.1, .int z.2.1, .int z.2.2]) = true
  | [] => rfl
  | z :: Gs => by
    show (PyData.canLay0 (.tuple [.int z.1, .int z.2.1, .int z.2.2]) && PyData.canLayAll0 (Gs.map fun z => PyData.tuple [.int z.1, .int z.2.1, .int z.2.2])) = true
    rw [lay_gifts Gs]
    rfl
theorem dep_gifts : ∀ Gs : List Pg.Gift, PyData.depthAll (Gs.map fun z => PyData.tuple [.int z.1, .int z.2.1, .int z.2.2]) ≤ 1
  | [] => Nat.zero_le _
  | z :: Gs => by
    show max (PyData.depth (.tuple [.int z.1, .int z.2.1, .int z.2.2])) (PyData.depthAll (Gs.map fun z => PyData.tuple [.int z.1, .int z.2.1, .int z.2.2])) ≤ 1
    exact Nat.max_le.mpr ⟨(by decide : (1 : Nat) ≤ 1), dep_gifts Gs⟩
theorem sh_gifts (Gs : List Pg.Gift) : SeqAt.shaped (.list (Gs.map fun z => PyData.tuple [.int z.1, .int z.2.1, .int z.2.2])) = true := by
  show (PyData.canLayAll0 (Gs.map fun z => PyData.tuple [.int z.1, .int z.2.1, .int z.2.2]) && decide (PyData.depthAll (Gs.map fun z => PyData.tuple [.int z.1, .int z.2.1, .int z.2.2]) + 1 ≤ 64)) = true
  have h := dep_gifts Gs
  rw [lay_gifts, decide_eq_true (by omega)]
  rfl

/-- a table at T: its rows' addresses rs -/
structure TabH (H : Hp) (T : Addr) (rs : List Addr) (M : List (List Int)) : Prop where
  lst : H T = some (.lst (rs.map V.ref))
  len : rs.length = M.length
  row : ∀ (i : Nat) r l, rs[i]? = some r → M[i]? = some l → H r = some (.lst (l.map V.int))
theorem TabH.up {H H' : Hp} {T : Addr} {rs : List Addr} {M : List (List Int)} (h : TabH H T rs M) (e : Ex H H') : TabH H' T rs M := ⟨e _ _ h.lst, h.len, fun i r l x y => e _ _ (h.row i r l x y)⟩
theorem TabH.ne {H : Hp} {T : Addr} {rs : List Addr} {M : List (List Int)} (h : TabH H T rs M) {i : Nat} {r : Addr} {l : List Int} (hr : rs[i]? = some r) (hl : M[i]? = some l) : r ≠ T := fun e => by
  subst e
  have h1 := h.row i r l hr hl
  rw [h.lst] at h1
  have h2 : rs.map V.ref = l.map V.int := HO.lst.inj (Option.some.inj h1)
  cases rs with
  | nil => cases hr
  | cons x rs =>
    cases l with
    | nil => cases h2
    | cons y l =>
      have h3 := (List.cons.inj h2).1
      cases h3
theorem TabH.set {H : Hp} {T b : Addr} {rs : List Addr} {M : List (List Int)} {k : Nat} {l : List Int} (h : TabH H T rs M) (hk : k < rs.length) (hb : H b = some (.lst (l.map V.int))) (hbT : b ≠ T) : TabH (upd H T (.lst ((rs.set k b).map V.ref))) T (rs.set k b) (M.set k l) := by
  refine ⟨upd_same, by rw [List.length_set, List.length_set, h.len], fun i r m hr hm => ?_⟩
  by_cases c : i = k
  · subst c
    rw [List.getElem?_set_self hk] at hr
    rw [List.getElem?_set_self (by rw [← h.len]; exact hk)] at hm
    obtain rfl := Option.some.inj hr
    obtain rfl := Option.some.inj hm
    rw [upd_ne hbT]
    exact hb
  · rw [List.getElem?_set_ne (Ne.symm c)] at hr hm
    rw [upd_ne (h.ne hr hm)]
    exact h.row i r m hr hm
/-- a table that grows, its rows new -/
def Gw (H0 : Hp) (M : List (List Int)) (D : Addr) (i : Nat) (acc : List V) (Hy : Hp) : Prop := ∃ qs : List Addr, acc = qs.map V.ref ∧ qs.length = i ∧ Ex H0 Hy ∧ Hy D = some (.lst acc) ∧ ∀ (k : Nat) q r, qs[k]? = some q → M[k]? = some r → Hy q = some (.lst (r.map V.int)) ∧ q ≠ D ∧ H0 q = none
theorem Gw.zero {H0 : Hp} {M : List (List Int)} {D : Addr} (h : H0 D = none) : Gw H0 M D 0 [] (upd H0 D (.lst [])) := ⟨[], rfl, rfl, Ex.new h, upd_same, fun k q r h => by cases h⟩
theorem Gw.more {H0 Hy : Hp} {M : List (List Int)} {D q : Addr} {i : Nat} {acc : List V} {r : List Int} (G : Gw H0 M D i acc Hy) (hD : H0 D = none) (hr : M[i]? = some r) (nq : Hy q = none) :
    (upd Hy q (.lst (r.map V.int))) D = some (.lst acc) ∧ Gw H0 M D (i + 1) (acc ++ [V.ref q]) (upd (upd Hy q (.lst (r.map V.int))) D (.lst (acc ++ [V.ref q]))) := by
  obtain ⟨qs, rfl, hl, ex, hDy, rows⟩ := G
  have hDq : D ≠ q := ne_of_none hDy nq
  refine ⟨at_up hDy nq, qs ++ [q], by rw [List.map_append]; rfl, by rw [List.length_append, hl]; rfl, Ex.mut (ex.trans (Ex.new nq)) hD, upd_same, fun k p m hp hm => ?_⟩
  rcases snoc_at hp with ⟨h1, h2⟩ | ⟨h1, h2⟩
  · obtain ⟨a, b, c⟩ := rows k p m h2 hm
    refine ⟨?_, b, c⟩
    rw [upd_ne b]
    exact at_up a nq
  · subst h1 h2
    rw [hl, hr] at hm
    obtain rfl := Option.some.inj hm
    refine ⟨?_, hDq.symm, fresh_back ex nq⟩
    rw [upd_ne hDq.symm, upd_same]
theorem Gw.tab {H0 Hy : Hp} {M : List (List Int)} {D : Addr} {acc : List V} (G : Gw H0 M D M.length acc Hy) : ∃ qs, TabH Hy D qs M ∧ Ex H0 Hy ∧ ∀ q ∈ qs, H0 q = none := by
  obtain ⟨qs, rfl, hl, ex, hDy, rows⟩ := G
  refine ⟨qs, ⟨hDy, hl, fun i r l h1 h2 => (rows i r l h1 h2).1⟩, ex, fun q hq => ?_⟩
  obtain ⟨k, hk⟩ := List.mem_iff_getElem?.mp hq
  have hlt := (List.getElem?_eq_some_iff.mp hk).1
  exact (rows k q _ hk (List.getElem?_eq_getElem (by omega))).2.2
/-- what stands behind i gifts -/
structure Upto (ns : List Int) (Gs : List Pg.Gift) (i : Nat) : Prop where
  good : Pt.Good ns (Pt.st ns (Gs.take i))
  bs : Bd (211 * i + 1) (Pt.st ns (Gs.take i)).s
  bc : AllBd 210 (Pt.st ns (Gs.take i)).cur
theorem Upto.zero {ns : List Int} {Gs : List Pg.Gift} (h : AllBd 210 ns) : Upto ns Gs 0 := ⟨Pt.good0 ns, by show Bd _ (1 : Int); unfold Bd; decide, h⟩
theorem bd_ov {cur : List Int} (h : AllBd 210 cur) (z : Pg.Gift) : Bd 211 (Pt.ov cur z) := (h.get _).sub (h.get _)
theorem Upto.succ {ns : List Int} {Gs : List Pg.Gift} {i : Nat} {z : Pg.Gift} (h : Upto ns Gs i) (hz : Gs[i]? = some z) (f : Pg.Fits (Pt.st ns (Gs.take i)).cur z.1 z.2.1 z.2.2) : Upto ns Gs (i + 1) := by
  have e : Pt.st ns (Gs.take (i + 1)) = Pt.step (Pt.st ns (Gs.take i)) z := by rw [Pm.take_more hz, Pt.st_snoc]
  refine ⟨?_, ?_, ?_⟩
  · rw [e]
    exact h.good.step f
  · rw [e]
    exact Bd.mono (h.bs.mul (bd_ov h.bc z)) (by omega)
  · rw [e]
    exact Pg.bd_done f h.bc
theorem Upto.entry {ns : List Int} {Gs : List Pg.Gift} {i : Nat} (h : Upto ns Gs i) (hi : i ≤ 100) : ∀ r ∈ (Pt.st ns (Gs.take i)).M, AllBd 30000 r := fun r hr x hx => by
  have h1 := h.good.nn r hr x hx
  have h2 := Pt.nn_bound (h.good.nn r hr) x hx
  rw [h.good.sum r hr] at h2
  refine Bd.mono (Bd.le ?_ h.bs) (by omega)
  omega
theorem Chain.upto {Ls : List (List Int)} {Gs : List Pg.Gift} {ns : List Int} (h : Chain Ls Gs) (h0 : Ls[0]? = some ns) (hb : AllBd 210 ns) : ∀ i, i ≤ Gs.length → Ls[i]? = some (Pt.st ns (Gs.take i)).cur ∧ Upto ns Gs i
  | 0, _ => ⟨h0, .zero hb⟩
  | i + 1, hi => by
    obtain ⟨ih, iu⟩ := h.upto h0 hb i (by omega)
    have hL := h.len
    obtain ⟨z, hz⟩ : ∃ z, Gs[i]? = some z := ⟨_, List.getElem?_eq_getElem (by omega)⟩
    obtain ⟨m, hm⟩ : ∃ m, Ls[i + 1]? = some m := ⟨_, List.getElem?_eq_getElem (by omega)⟩
    obtain ⟨f, e⟩ := h.step i _ m z ih hm hz
    refine ⟨?_, iu.succ hz f⟩
    rw [hm, e, Pm.take_more hz, Pt.st_snoc]
    rfl
def spblended (K : PySem.W.Frag) : Sp := fun vs H Q _ => ∃ (a b : Addr) (as bs : List Int) (x y : Int), vs = [.ref a, .ref b, .int x, .int y] ∧ SqL K H a (as.map V.int) ∧ SqL K H b (bs.map V.int) ∧ as.length = bs.length ∧ as.length ≤ 1000 ∧ AllBd 30000 as ∧ AllBd 30000 bs ∧ Bd 300 x ∧ Bd 300 y ∧ ∀ p, H p = none → KQ Q (.ref p) (upd H p (.lst ((Pt.bl as bs x y).map V.int)))
theorem k_blended {K : PySem.W.Frag} {H : Hp} {P : V → Hp → Prop} {a b : Addr} {as bs : List Int} {x y : Int} (h1 : SqL K H a (as.map V.int)) (h2 : SqL K H b (bs.map V.int)) (hl : as.length = bs.length) (hl2 : as.length ≤ 1000) (b1 : AllBd 30000 as) (b2 : AllBd 30000 bs) (bx : Bd 300 x) (hy : Bd 300 y) (hp : ∀ p, H p = none → P (.ref p) (upd H p (.lst ((Pt.bl as bs x y).map V.int)))) : SpK (spblended K) [.ref a, .ref b, .int x, .int y] H P := fun _ H1 e Q q =>
  ⟨a, b, as, bs, x, y, rfl, ex_l e h1, ex_l e h2, hl, hl2, b1, b2, bx, hy, fun p np H2 e2 => q _ _ ⟨_, (Ex.updm e).trans e2, hp p (fresh_back e np)⟩⟩
def spshares (K : PySem.W.Frag) (C : Addr) : Sp := fun vs H Q E => ∃ (a b : Addr) (ns : List Int) (gs : List Addr) (Gs : List Pg.Gift), vs = [.ref a, .ref b] ∧ SqL K H a (ns.map V.int) ∧ GfL K H b gs Gs ∧ ns.length ≤ 100 ∧ Gs.length ≤ 100 ∧ AllBd 210 ns ∧
  (Pg.walk ns Gs = none → KE E (.ref C) none H) ∧ (∀ ms, Pg.walk ns Gs = some ms → ∀ (p T : Addr) rs H', Ex H H' → H' p = some (.tup [.ref T, .int (Pt.st ns Gs).s]) → TabH H' T rs (Pt.st ns Gs).M → (∀ r ∈ rs, H r = none) → KQ Q (.ref p) H')
theorem k_shares {K : PySem.W.Frag} {C : Addr} {E : XK} {H : Hp} {P : V → Hp → Prop} {a b : Addr} {ns : List Int} {gs : List Addr} {Gs : List Pg.Gift} (h : SqL K H a (ns.map V.int)) (hz : GfL K H b gs Gs) (hl : ns.length ≤ 100) (hl2 : Gs.length ≤ 100) (hb : AllBd 210 ns) (he : Pg.walk ns Gs = none → KE E (.ref C) none H)
    (hp : ∀ ms, Pg.walk ns Gs = some ms → ∀ (p T : Addr) rs H', Ex H H' → H' p = some (.tup [.ref T, .int (Pt.st ns Gs).s]) → TabH H' T rs (Pt.st ns Gs).M → (∀ r ∈ rs, H r = none) → P (.ref p) H') : Kc (fun H Q => spshares K C [.ref a, .ref b] H Q E) H P := fun H1 e Q q =>
  ⟨a, b, ns, gs, Gs, rfl, ex_l e h, hz.up e, hl, hl2, hb, fun n => (he n).up e, fun ms y p T rs H' e' h1 h2 h3 H2 e2 => q _ _ ⟨H', e2, hp ms y p T rs H' (e.trans e') h1 h2 fun r hr => fresh_back e (h3 r hr)⟩⟩
/-- the law's rows and gifts -/
structure Lw (K : PySem.W.Frag) (H : Hp) (R G : Addr) (rs gs : List Addr) (Ls : List (List Int)) (Gs : List Pg.Gift) (ns : List Int) : Prop where
  rw_ : RwL K H R rs Ls
  gf : GfL K H G gs Gs
  ch : Chain Ls Gs
  h0 : Ls[0]? = some ns
  gl : Gs.length ≤ 100
  nl : ns.length ≤ 100
  bd : AllBd 210 ns
theorem Lw.up {K : PySem.W.Frag} {H H' : Hp} {R G : Addr} {rs gs : List Addr} {Ls : List (List Int)} {Gs : List Pg.Gift} {ns : List Int} (L : Lw K H R G rs gs Ls Gs ns) (e : Ex H H') : Lw K H' R G rs gs Ls Gs ns := ⟨L.rw_.up e, L.gf.up e, L.ch, L.h0, L.gl, L.nl, L.bd⟩
/-- reading the i-th row -/
theorem Lw.row {K : PySem.W.Frag} {H : Hp} {R G : Addr} {rs gs : List Addr} {Ls : List (List Int)} {Gs : List Pg.Gift} {ns : List Int} {P : V → Hp → Prop} (L : Lw K H R G rs gs Ls Gs ns) {i : Nat} (hi : i ≤ Gs.length) (hp : ∀ r, SqL K H r ((Pt.st ns (Gs.take i)).cur.map V.int) → P (.ref r) H) : RK (rIxL K) (.ref R) (.int (i : Int)) H P := by
  obtain ⟨h1, _⟩ := L.ch.upto L.h0 L.bd i hi
  have h2 : i < rs.length := by rw [L.rw_.len, L.ch.len]; omega
  have g2 := List.getElem?_eq_getElem h2
  exact r_ixL L.rw_.lst (atI_nat (by rw [List.getElem?_map, g2]; rfl)) (hp _ (L.rw_.row i _ _ g2 h1))
theorem Lw.lastRow {K : PySem.W.Frag} {H : Hp} {R G : Addr} {rs gs : List Addr} {Ls : List (List Int)} {Gs : List Pg.Gift} {ns : List Int} {P : V → Hp → Prop} (L : Lw K H R G rs gs Ls Gs ns) (hp : ∀ r, SqL K H r ((Pt.st ns Gs).cur.map V.int) → P (.ref r) H) : RK (rIxL K) (.ref R) (.int (-1)) H P := by
  obtain ⟨h1, _⟩ := L.ch.upto L.h0 L.bd Gs.length (Nat.le_refl _)
  rw [List.take_length] at h1
  have h2 : Gs.length < rs.length := by rw [L.rw_.len, L.ch.len]; omega
  have g2 := List.getElem?_eq_getElem h2
  refine r_ixL L.rw_.lst ?_ (hp _ (L.rw_.row _ _ _ g2 h1))
  rw [Pm.atI_neg (by rw [List.length_map]; omega), List.length_map, L.rw_.len, L.ch.len, Nat.add_sub_cancel, List.getElem?_map, g2]
  rfl
theorem Lw.upto {K : PySem.W.Frag} {H : Hp} {R G : Addr} {rs gs : List Addr} {Ls : List (List Int)} {Gs : List Pg.Gift} {ns : List Int} (L : Lw K H R G rs gs Ls Gs ns) {i : Nat} (hi : i ≤ Gs.length) : Upto ns Gs i := (L.ch.upto L.h0 L.bd i hi).2
theorem Lw.fits {K : PySem.W.Frag} {H : Hp} {R G : Addr} {rs gs : List Addr} {Ls : List (List Int)} {Gs : List Pg.Gift} {ns : List Int} (L : Lw K H R G rs gs Ls Gs ns) {i : Nat} {z : Pg.Gift} (hz : Gs[i]? = some z) : Pg.Fits (Pt.st ns (Gs.take i)).cur z.1 z.2.1 z.2.2 := by
  have hi := (List.getElem?_eq_some_iff.mp hz).1
  obtain ⟨h1, _⟩ := L.ch.upto L.h0 L.bd i (by omega)
  have hL := L.ch.len
  exact (L.ch.step i _ _ z h1 (List.getElem?_eq_getElem (show i + 1 < Ls.length by omega)) hz).1
/-- the i-th gift taken apart -/
theorem Lw.gift {K : PySem.W.Frag} {H : Hp} {R G : Addr} {rs gs : List Addr} {Ls : List (List Int)} {Gs : List Pg.Gift} {ns : List Int} {P : V → Hp → Prop} (L : Lw K H R G rs gs Ls Gs ns) {i : Nat} {z : Pg.Gift} (hz : Gs[i]? = some z) (hp : ∀ g, SqT K H g [.int z.1, .int z.2.1, .int z.2.2] → P (.ref g) H) : RK (rIxL K) (.ref G) (.int (i : Int)) H P := by
  have h1 := (List.getElem?_eq_some_iff.mp hz).1
  have h2 : i < gs.length := by rw [L.gf.len]; exact h1
  have g2 := List.getElem?_eq_getElem h2
  exact r_ixL L.gf.lst (atI_nat (by rw [List.getElem?_map, g2]; rfl)) (hp _ (L.gf.tup i _ _ g2 hz))
def spLcolumn (K : PySem.W.Frag) : Sp := fun vs H Q _ => ∃ (R G : Addr) (j : Nat) (rs gs : List Addr) (Ls : List (List Int)) (Gs : List Pg.Gift) (ns : List Int), vs = [.ref R, .ref G, .int (j : Int)] ∧ Lw K H R G rs gs Ls Gs ns ∧ j < ns.length ∧ ∀ p H', Ex H H' → SqL K H' p ((Pt.colOf (Pt.st ns Gs).M j).map V.int) → KQ Q (.ref p) H'
theorem k_Lcolumn {K : PySem.W.Frag} {H : Hp} {P : V → Hp → Prop} {R G : Addr} {j : Nat} {rs gs : List Addr} {Ls : List (List Int)} {Gs : List Pg.Gift} {ns : List Int} (L : Lw K H R G rs gs Ls Gs ns) (hj : j < ns.length) (hp : ∀ p H', Ex H H' → SqL K H' p ((Pt.colOf (Pt.st ns Gs).M j).map V.int) → P (.ref p) H') : SpK (spLcolumn K) [.ref R, .ref G, .int (j : Int)] H P := fun _ H1 e Q q =>
  ⟨R, G, j, rs, gs, Ls, Gs, ns, rfl, L.up e, hj, fun p H' e' h1 H2 e2 => q _ _ ⟨H', e2, hp p H' (e.trans e') h1⟩⟩
def spLscale (K : PySem.W.Frag) : Sp := fun vs H Q _ => ∃ (R G : Addr) (rs gs : List Addr) (Ls : List (List Int)) (Gs : List Pg.Gift) (ns : List Int), vs = [.ref R, .ref G] ∧ Lw K H R G rs gs Ls Gs ns ∧ KQ Q (.int (Pt.st ns Gs).s) H
theorem k_Lscale {K : PySem.W.Frag} {H : Hp} {P : V → Hp → Prop} {R G : Addr} {rs gs : List Addr} {Ls : List (List Int)} {Gs : List Pg.Gift} {ns : List Int} (L : Lw K H R G rs gs Ls Gs ns) (hp : P (.int (Pt.st ns Gs).s) H) : SpK (spLscale K) [.ref R, .ref G] H P := fun _ H1 e Q q =>
  ⟨R, G, rs, gs, Ls, Gs, ns, rfl, L.up e, fun H2 e2 => q _ _ ⟨_, e.trans e2, hp⟩⟩
def spLadds_up (K : PySem.W.Frag) : Sp := fun vs H Q _ => ∃ (T f l : Addr) (rs : List Addr) (ns : List Int) (S : Pt.St), vs = [.ref T, .int S.s, .ref f, .ref l] ∧ TabH H T rs S.M ∧ SqL K H f (ns.map V.int) ∧ SqL K H l (S.cur.map V.int) ∧ Pt.Good ns S ∧ ns.length ≤ 100 ∧ Bd 30000 S.s ∧ (∀ r ∈ S.M, AllBd 30000 r) ∧ AllBd 210 ns ∧ AllBd 210 S.cur ∧ KQ Q (.bl true) H
theorem k_Ladds_up {K : PySem.W.Frag} {H : Hp} {P : V → Hp → Prop} {T f l : Addr} {rs : List Addr} {ns : List Int} {S : Pt.St} (h1 : TabH H T rs S.M) (h2 : SqL K H f (ns.map V.int)) (h3 : SqL K H l (S.cur.map V.int)) (h4 : Pt.Good ns S) (h5 : ns.length ≤ 100) (h6 : Bd 30000 S.s) (h7 : ∀ r ∈ S.M, AllBd 30000 r) (h8 : AllBd 210 ns) (h9 : AllBd 210 S.cur) (hp : P (.bl true) H) : SpK (spLadds_up K) [.ref T, .int S.s, .ref f, .ref l] H P := fun _ H1 e Q q =>
  ⟨T, f, l, rs, ns, S, rfl, h1.up e, ex_l e h2, ex_l e h3, h4, h5, h6, h7, h8, h9, fun H2 e2 => q _ _ ⟨_, e.trans e2, hp⟩⟩
def spLright (K : PySem.W.Frag) : Sp := fun vs H Q _ => ∃ (p T R G c : Addr) (ts rs gs : List Addr) (Ls : List (List Int)) (Gs : List Pg.Gift) (ns : List Int) (cs : List Int), vs = [.ref p, .ref R, .ref G, .ref c] ∧ H p = some (.tup [.ref T, .int (Pt.st ns Gs).s]) ∧ TabH H T ts (Pt.st ns Gs).M ∧ Lw K H R G rs gs Ls Gs ns ∧ SqL K H c (cs.map V.int) ∧ (∀ x ∈ cs, 0 ≤ x ∧ x < (ns.length : Int)) ∧ KQ Q (.bl true) H
theorem k_Lright {K : PySem.W.Frag} {H : Hp} {P : V → Hp → Prop} {p T R G c : Addr} {ts rs gs : List Addr} {Ls : List (List Int)} {Gs : List Pg.Gift} {ns : List Int} {cs : List Int} (h1 : H p = some (.tup [.ref T, .int (Pt.st ns Gs).s])) (h2 : TabH H T ts (Pt.st ns Gs).M) (h3 : Lw K H R G rs gs Ls Gs ns) (h4 : SqL K H c (cs.map V.int)) (h5 : ∀ x ∈ cs, 0 ≤ x ∧ x < (ns.length : Int)) (hp : P (.bl true) H) : SpK (spLright K) [.ref p, .ref R, .ref G, .ref c] H P := fun _ H1 e Q q =>
  ⟨p, T, R, G, c, ts, rs, gs, Ls, Gs, ns, cs, rfl, e _ _ h1, h2.up e, h3.up e, ex_l e h4, h5, fun H2 e2 => q _ _ ⟨_, e.trans e2, hp⟩⟩
def spLrefused (K : PySem.W.Frag) : Sp := fun vs H Q _ => ∃ (a b : Addr) (ns : List Int) (gs : List Addr) (Gs : List Pg.Gift), vs = [.ref a, .ref b] ∧ SqL K H a (ns.map V.int) ∧ GfL K H b gs Gs ∧ ns.length ≤ 100 ∧ Gs.length ≤ 100 ∧ AllBd 210 ns ∧ Pg.walk ns Gs = none ∧ KQ Q (.bl true) H
theorem k_Lrefused {K : PySem.W.Frag} {H : Hp} {P : V → Hp → Prop} {a b : Addr} {ns : List Int} {gs : List Addr} {Gs : List Pg.Gift} (h : SqL K H a (ns.map V.int)) (h2 : GfL K H b gs Gs) (hl : ns.length ≤ 100) (hl2 : Gs.length ≤ 100) (hb : AllBd 210 ns) (hw : Pg.walk ns Gs = none) (hp : P (.bl true) H) : SpK (spLrefused K) [.ref a, .ref b] H P := fun _ H1 e Q q =>
  ⟨a, b, ns, gs, Gs, rfl, ex_l e h, h2.up e, hl, hl2, hb, hw, fun H2 e2 => q _ _ ⟨_, e.trans e2, hp⟩⟩
def spLaw (K : PySem.W.Frag) : Sp := fun vs H Q _ => ∃ (a : Addr) (ns : List Int), vs = [.ref a] ∧ SqL K H a (ns.map V.int) ∧ ns.length ≤ 63 ∧ (∀ z ∈ ns, Builtin.Int.intBits z ≤ 1048576) ∧ ∀ H', Q (.bl true) H'

section
variable {P : Program} {w : World} {K : PySem.W.Frag} {mg : Str → Option Value} {base : Heap}
theorem ok_fits {C_PurseError C_NoGift : Addr} (T : TxtE K mg C_PurseError C_NoGift) {f : Addr} {fd : FuncData} (F : Fun K "fits" "fits" s_fits f fd) (B : Bl mg) : FnOk P w K mg base CX0 1 f fd ["row", "gift"] (spfits K) := by
  refine F.ok sc_fits (fun vs H Q E h => ?_) (fun cdv A outer s H vs Q E hr h => ?_)
  · obtain ⟨a, b, ns, z, rfl, _⟩ := h
    rfl
  · obtain ⟨a, b, ns, ⟨gv, tk, am⟩, rfl, hS, hz0, q⟩ := h
    have hz : SqT K H b [.int gv, .int tk, .int am] := hz0
    refine ⟨_, (pss_cons (ps_asg (pv 1) (pgT (K := K) (n := 3) rfl (pgs_cons (pg_name (i := 2) sc_fits.nd rfl (Or.inl rfl)) (pgs_cons (pg_name (i := 3) sc_fits.nd rfl (Or.inl rfl)) (pgs_cons (pg_name (i := 4) sc_fits.nd rfl (Or.inl rfl)) pgs_nil)))))
      (pss_cons (ps_set (i := 5) sc_fits.nd rfl (Or.inl rfl) (pe_callB (bLen (K := K)) (by rfl) B.len_ boot_len (pa_cons (pv 0) pa_nil)))
      (pss_cons (ps_if (PW.pt (pw_or (pt_cmpR op_lt (pv 4) pe_int (nomark _)) (pw_or (pt_not (pt_chain op_le op_lt pe_int (pv 2) (pv 5))) (pw_or1 (pt_not (pt_chain op_le op_lt pe_int (pv 3) (pv 5))))))) (pss_one (ps_ret pe_bl)) pss_nil)
      (pss_one (ps_ret (pe_cmpR op_ge (pe_op op_sub (pe_ix (ixl (K := K)) (pv 0) (pv 2) (fun _ _ => rfl)) (pe_ix (ixl (K := K)) (pv 0) (pv 3) (fun _ _ => rfl))) (pv 4) (nomark _))))))), Go.here ?_⟩
    dsimp only at q
    have no : ∀ σ D, D.rt = Q → ¬ Pg.Fits ns gv tk am → Go (tRet (tC (.bl false))) D σ H := fun σ D hD hn => by
      rw [Pg.fitsB_not hn] at q
      rw [← hD] at q
      exact g1_ret (k_c q)
    refine gs_asgG ?_
    walk_at "ks"
    refine gk_tup3 hz (gk_name (gk_name (gk_name ?_)))
    walk_at "s"; walk_at "ks"
    refine c_len hS ?_
    rw [List.length_map]
    walk_at "s"; walk_at "ks"
    refine ⟨fun hb => ⟨fun _ => no _ _ rfl fun f => ?_, fun h => Bool.noConfusion h⟩, fun hb => ?_⟩
    · have h1 := f.d1
      have h2 := of_decide_eq_true hb
      omega
    have d1 := of_decide_eq_false hb
    walk_at "ks"
    refine ⟨fun h0 => ?_, fun h0 => ?_⟩
    rotate_left
    · walk_at "ks"
      refine ⟨fun _ => ⟨fun _ => no _ _ rfl fun f => ?_, fun h => Bool.noConfusion h⟩, fun h => Bool.noConfusion h⟩
      have h1 := f.g0
      have h2 := of_decide_eq_false h0
      omega
    have g0 := of_decide_eq_true h0
    walk_at "ks"
    refine ⟨fun h0 => ⟨fun _ => no _ _ rfl fun f => ?_, fun h => Bool.noConfusion h⟩, fun h0 => ?_⟩
    · have h1 := f.gn
      rw [Bool.not_eq_true'] at h0
      have h2 := of_decide_eq_false h0
      omega
    rw [Bool.not_eq_false'] at h0
    have gn := of_decide_eq_true h0
    walk_at "ks"
    refine ⟨fun h0 => ?_, fun h0 => ?_⟩
    rotate_left
    · walk_at "ks"
      refine ⟨fun _ => no _ _ rfl fun f => ?_, fun h => Bool.noConfusion h⟩
      have h1 := f.t0
      have h2 := of_decide_eq_false h0
      omega
    have t0 := of_decide_eq_true h0
    walk_at "ks"
    refine ⟨fun h0 => no _ _ rfl fun f => ?_, fun h0 => ?_⟩
    · have h1 := f.tn
      rw [Bool.not_eq_true'] at h0
      have h2 := of_decide_eq_false h0
      omega
    rw [Bool.not_eq_false'] at h0
    have tn := of_decide_eq_true h0
    walk_at "s"; walk_at "ks"
    refine r_ixL hS (at_getD g0 gn) ?_
    walk_at "ks"
    refine r_ixL hS (at_getD t0 tn) ?_
    walk_at "ks"
    have e : Pg.fitsB ns gv tk am = decide (am ≤ ns.getD gv.toNat 0 - ns.getD tk.toNat 0) := by
      unfold Pg.fitsB
      rw [decide_eq_true (show 1 ≤ am by omega), decide_eq_true g0, decide_eq_true gn, decide_eq_true t0, decide_eq_true tn]
      rfl
    rw [e] at q
    exact q
theorem ok_done {C_PurseError C_NoGift : Addr} (T : TxtE K mg C_PurseError C_NoGift) {f : Addr} {fd : FuncData} (F : Fun K "done" "done" s_done f fd) (B : Bl mg) {f_fits : Addr} {fd_fits : FuncData} (c_fits : Cl P w K mg base CX0 1 "fits" f_fits fd_fits ["row", "gift"] (spfits K)) : FnOk P w K mg base (L2.CX P w) 2 f fd ["row", "gift"] (spdone K C_NoGift) := by
  refine F.okX sc_done (fun vs H Q E h => ?_) (fun cdv A outer s H vs Q E hr h => ?_)
  · obtain ⟨a, b, ns, z, rfl, _⟩ := h
    rfl
  · obtain ⟨a, b, ns, ⟨gv, tk, am⟩, rfl, hS, hz0, qe, qk⟩ := h
    have hz : SqT K H b [.int gv, .int tk, .int am] := hz0
    dsimp only at qe qk
    refine ⟨_, (pss_cons (ps_if (pt_not (pt_val (pe_call c_fits.ok (hr.mono (by decide)) (by rfl) c_fits.gl c_fits.kp c_fits.bd .nil pass0 (pa_cons (pv 0) (pa_cons (pv 1) pa_nil))))) (pss_one (ps_raise rfl (takes_of rfl rfl rfl rfl) (pmk_own PySem.F.excBase_ValueError T.x_NoGift T.g_NoGift T.k_NoGift (raises_own T.b_NoGift T.t_NoGift) rfl))) pss_nil)
      (pss_cons (ps_asg (pv 1) (pgT (K := K) (n := 3) rfl (pgs_cons (pg_name (i := 2) sc_done.nd rfl (Or.inl rfl)) (pgs_cons (pg_name (i := 3) sc_done.nd rfl (Or.inl rfl)) (pgs_cons (pg_name (i := 4) sc_done.nd rfl (Or.inl rfl)) pgs_nil)))))
      (pss_cons (ps_set (i := 5) sc_done.nd rfl (Or.inl rfl) (pe_callTy (bList (K := K)) (by rfl) B.list_ boot_list (pa_cons (pv 0) pa_nil)))
      (pss_cons (ps_asg (pe_op op_sub (pe_ix (ixl (K := K)) (pv 5) (pv 2) (fun _ _ => rfl)) (pv 4)) (pg_sub (pv 5) (pv 2) set_list))
      (pss_cons (ps_asg (pe_op op_add (pe_ix (ixl (K := K)) (pv 5) (pv 3) (fun _ _ => rfl)) (pv 4)) (pg_sub (pv 5) (pv 3) set_list))
      (pss_one (ps_ret (pv 5)))))))), Go.here ?_⟩
    walk_at "s"; walk_at "ks"
    refine k_fits hS hz0 ?_
    walk_at "ks"
    refine ⟨fun hb => ?_, fun hb => ?_⟩
    · have nf : ¬ Pg.Fits ns gv tk am := fun f => by
        dsimp only at hb
        rw [Pg.fitsB_iff.mpr f] at hb
        exact Bool.noConfusion hb
      exact fun H1 e1 => qe nf H1 e1
    have f : Pg.Fits ns gv tk am := by
      dsimp only at hb
      rw [Bool.not_eq_false'] at hb
      exact Pg.fitsB_iff.mp hb
    have g0 := f.g0
    have gn := f.gn
    have t0 := f.t0
    have tn := f.tn
    refine gs_asgG ?_
    walk_at "ks"
    refine gk_tup3 hz (gk_name (gk_name (gk_name ?_)))
    walk_at "s"; walk_at "ks"
    refine c_list hS fun p np => ?_
    have eg : gv = (gv.toNat : Int) := by omega
    have et : tk = (tk.toNat : Int) := by omega
    walk_at "s"; walk_at "ks"
    refine r_ixL (sq_of upd_same) (at_getD g0 gn) ?_
    walk_at "ks"
    refine ⟨p, ns.map V.int, gv, gv.toNat, rfl, rfl, upd_same, ixN_at g0 (by rw [List.length_map]; exact gn), ?_⟩
    rw [upd_upd, map_set_int]
    walk_at "s"; walk_at "ks"
    refine r_ixL (sq_of upd_same) (at_getD t0 (by rw [List.length_set]; exact tn)) ?_
    walk_at "ks"
    refine ⟨p, _, tk, tk.toNat, rfl, rfl, upd_same, ixN_at t0 (by rw [List.length_map, List.length_set]; exact tn), ?_⟩
    rw [upd_upd, map_set_int, Pg.getD_set_ne f.ne]
    walk_at "s"; walk_at "ks"
    exact qk f p np

theorem ok_Lcell_at {C_PurseError C_NoGift : Addr} (T : TxtE K mg C_PurseError C_NoGift) {f : Addr} {fd : FuncData} (F : Fun K "_law_cell_at" "_law_cell_at" s_Lcell_at f fd) (B : Bl mg) : FnOk P w K mg base CX0 1 f fd ["_law_script", "_law_k"] (spLcell_at K) := by
  refine F.ok sc_Lcell_at (fun vs H Q E h => ?_) (fun cdv A outer s H vs Q E hr h => ?_)
  · obtain ⟨a, ns, k, rfl, _⟩ := h
    rfl
  · obtain ⟨a, ns, k, rfl, hS, h0, q⟩ := h
    refine ⟨_, (pss_cons (ps_if (pt_cmpR op_lt (pv 1) (pe_callB (bLen (K := K)) (by rfl) B.len_ boot_len (pa_cons (pv 0) pa_nil)) (nomark _)) (pss_one (ps_ret (pe_ix (ixl (K := K)) (pv 0) (pv 1) (fun _ _ => rfl)))) pss_nil)
      (pss_one (ps_ret pe_int))), Go.here ?_⟩
    walk_at "s"; walk_at "ks"
    refine c_len hS ?_
    walk_at "ks"
    rw [List.length_map]
    refine ⟨fun hb => ?_, fun hb => ?_⟩
    · walk_at "s"; walk_at "ks"
      have hb' := of_decide_eq_true hb
      refine r_ixL hS (at_getD h0 hb') ?_
      unfold cellAt at q
      rw [if_pos hb'] at q
      exact q
    · walk_at "s"; walk_at "ks"
      unfold cellAt at q
      rw [if_neg (of_decide_eq_false hb)] at q
      exact q

theorem ok_Lwholes {C_PurseError C_NoGift : Addr} (T : TxtE K mg C_PurseError C_NoGift) {f : Addr} {fd : FuncData} (F : Fun K "_law_wholes" "_law_wholes" s_Lwholes f fd) (B : Bl mg) : FnOk P w K mg base CX0 1 f fd ["_law_found", "_law_many"] (spLwholes K) := by
  refine F.ok sc_Lwholes (fun vs H Q E h => ?_) (fun cdv A outer s H vs Q E hr h => ?_)
  · obtain ⟨a, ns, rfl, _⟩ := h
    rfl
  · obtain ⟨a, ns, rfl, hA, q⟩ := h
    refine ⟨_, (pss_cons (ps_if (PW.pt (pw_or (pt_not (pt_val (pe_callB (bIsi (K := K)) (by rfl) B.isinstance_ boot_isinstance (pa_cons (pv 0) (pa_cons (pe_bltn (v := .ty "list") (by rfl) B.list_ boot_list rfl) pa_nil))))) (pw_or1 (pt_cmpR op_ne (pe_callB (bLen (K := K)) (by rfl) B.len_ boot_len (pa_cons (pv 0) pa_nil)) (pv 1) (nomark _))))) (pss_one (ps_ret pe_bl)) pss_nil)
      (pss_cons (ps_for PassesOwn.never rfl (piL (K := K) (pv 0)) (pg_name (i := 2) sc_Lwholes.nd rfl (Or.inl rfl)) (pss_one (ps_if (PW.pt (pw_or (pt_not (pt_val (pe_callB (bIsi (K := K)) (by rfl) B.isinstance_ boot_isinstance (pa_cons (pv 2) (pa_cons (pe_bltn (v := .ty "int") (by rfl) B.int_ boot_int rfl) pa_nil))))) (pw_or1 (pt_val (pe_callB (bIsi (K := K)) (by rfl) B.isinstance_ boot_isinstance (pa_cons (pv 2) (pa_cons (pe_bltn (v := .ty "bool") (by rfl) B.bool_ boot_bool rfl) pa_nil))))))) (pss_one (ps_ret pe_bl)) pss_nil)))
      (pss_one (ps_ret pe_bl)))), Go.here ?_⟩
    walk_at "s"; walk_at "ks"
    refine c_list_list hA ?_
    walk_at "ks"
    refine ⟨fun hb => Bool.noConfusion hb, fun _ => ?_⟩
    walk_at "ks"
    refine c_len (sq_of hA) ?_
    walk_at "ks"
    rw [List.length_map, decide_eq_true rfl]
    refine ⟨fun hb => Bool.noConfusion hb, fun _ => ?_⟩
    refine gs_forL (a := a) (xs := ns.map V.int) (fun i σ' H' => ∃ (v : Option V), σ' = [some (.ref a), some (.int (ns.length : Int)), v] ∧ H' = H) ?_ ?_ ?_ ?_
    · walk_at "ks"
      exact ⟨rfl, sq_of hA, none, rfl, rfl⟩
    · rintro i σ' H' _ ⟨v, _, rfl⟩
      exact sq_of hA
    · rintro i x σ' H' hx ⟨v, rfl, rfl⟩
      obtain ⟨z, _, rfl⟩ := Pm.map_at hx
      walk_at "s"; walk_at "ks"
      refine c_int_int ?_
      walk_at "ks"
      refine ⟨fun hb => Bool.noConfusion hb, fun _ => ?_⟩
      walk_at "ks"
      refine c_int_bool ?_
      walk_at "ks"
      refine ⟨fun hb => Bool.noConfusion hb, fun _ => ?_⟩
      exact g1_next fun H1 e1 => ⟨_, e1, _, rfl, rfl⟩
    · rintro σ' H' ⟨v, rfl, rfl⟩
      walk_at "s"; walk_at "ks"
      exact q

theorem ok_Lgift {C_PurseError C_NoGift : Addr} (T : TxtE K mg C_PurseError C_NoGift) {f : Addr} {fd : FuncData} (F : Fun K "_law_gift" "_law_gift" s_Lgift f fd) (B : Bl mg) : FnOk P w K mg base CX0 1 f fd ["_law_cell", "_law_row_here"] (spLgift K) := by
  refine F.ok sc_Lgift (fun vs H Q E h => ?_) (fun cdv A outer s H vs Q E hr h => ?_)
  · obtain ⟨c, a, ns, rfl, _⟩ := h
    rfl
  · obtain ⟨c, a, ns, rfl, hS, hl, q0, q⟩ := h
    refine ⟨_, (pss_cons (ps_if (pt_cmpR op_lt (pe_callB (bLen (K := K)) (by rfl) B.len_ boot_len (pa_cons (pv 1) pa_nil)) pe_int (nomark _)) (pss_one (ps_ret pe_non)) pss_nil)
      (pss_cons (ps_set (i := 2) sc_Lgift.nd rfl (Or.inl rfl) (pe_op op_mod (pv 0) (pe_op op_pow pe_int pe_int)))
      (pss_cons (ps_set (i := 3) sc_Lgift.nd rfl (Or.inl rfl) (pe_op op_mod (pe_op op_mod (pe_op op_mulX (pv 2) pe_int) pe_int) (pe_callB (bLen (K := K)) (by rfl) B.len_ boot_len (pa_cons (pv 1) pa_nil))))
      (pss_cons (ps_set (i := 4) sc_Lgift.nd rfl (Or.inl rfl) (pe_op op_mod (pe_op op_add (pe_op op_add (pv 3) pe_int) (pe_op op_mod (pe_op op_mod (pe_op op_mulX (pv 2) pe_int) pe_int) (pe_op op_sub (pe_callB (bLen (K := K)) (by rfl) B.len_ boot_len (pa_cons (pv 1) pa_nil)) pe_int))) (pe_callB (bLen (K := K)) (by rfl) B.len_ boot_len (pa_cons (pv 1) pa_nil))))
      (Evl.pss_cut (ps_if (pt_cmpR op_lt (pe_ix (ixl (K := K)) (pv 1) (pv 3) (fun _ _ => rfl)) (pe_ix (ixl (K := K)) (pv 1) (pv 4) (fun _ _ => rfl)) (nomark _)) (pss_one (ps_par (i := 3) (j := 4) rfl sc_Lgift.nd rfl rfl (by decide) rfl rfl (pa_cons (pv 4) (pa_cons (pv 3) pa_nil)) rfl)) pss_nil)
      (pss_cons (ps_set (i := 5) sc_Lgift.nd rfl (Or.inl rfl) (pe_op op_sub (pe_ix (ixl (K := K)) (pv 1) (pv 3) (fun _ _ => rfl)) (pe_ix (ixl (K := K)) (pv 1) (pv 4) (fun _ _ => rfl))))
      (pss_cons (ps_if (pt_cmpR op_eq (pv 5) pe_int (nomark _)) (pss_one (ps_ret pe_non)) pss_nil)
      (pss_cons (ps_set (i := 6) sc_Lgift.nd rfl (Or.inl rfl) (pe_op op_mod (pe_op op_mod (pe_op op_mulX (pv 2) pe_int) pe_int) pe_int))
      (pss_cons (ps_if (pt_cmpR op_lt (pv 6) pe_int (nomark _)) (pss_one (ps_ret (pe_tup (pa_cons (pv 3) (pa_cons (pv 4) (pa_cons (pe_ix (ixl (K := K)) (pe_lst (pa_cons (pv 5) (pa_cons pe_int (pa_cons (pe_op op_fdiv (pe_op op_add (pv 5) pe_int) pe_int) pa_nil)))) (pv 6) (fun _ _ => rfl)) pa_nil)))))) pss_nil)
      (pss_one (ps_ret (pe_tup (pa_cons (pv 3) (pa_cons (pv 4) (pa_cons (pe_op op_add pe_int (pe_op op_mod (pe_op op_mulX (pv 2) (pe_op op_pow pe_int pe_int)) (pv 5))) pa_nil))))))))))))))), Go.here ?_⟩
    walk_at "s"; walk_at "ks"
    refine c_len hS ?_
    rw [List.length_map]
    walk_at "ks"
    refine ⟨fun hb => ?_, fun hb => ?_⟩
    · walk_at "s"; walk_at "ks"
      exact q0
    have hn := of_decide_eq_false hb
    walk_at "s"; walk_at "ks"
    have bN : Bd 214 (c % 10 ^ Int.toNat 64) := Bd.mono (Bd.mod (bd_lit _) (by decide)) (by decide +kernel)
    generalize c % 10 ^ Int.toNat 64 = N at bN
    walk_at "s"; walk_at "ks"
    refine c_len hS ?_
    rw [List.length_map]
    walk_at "ks"
    have a0 := Int.emod_nonneg (N * 48271 % 2147483647) (show (ns.length : Int) ≠ 0 by omega)
    have a1 := Int.emod_lt_of_pos (N * 48271 % 2147483647) (show 0 < (ns.length : Int) by omega)
    generalize N * 48271 % 2147483647 % (ns.length : Int) = x at a0 a1
    walk_at "s"; walk_at "ks"
    refine c_len hS ?_
    rw [List.length_map]
    walk_at "ks"
    refine c_len hS ?_
    rw [List.length_map]
    walk_at "ks"
    generalize x + 1 + N * 69621 % 2147483629 % ((ns.length : Int) - 1) = y'
    have b0 := Int.emod_nonneg y' (show (ns.length : Int) ≠ 0 by omega)
    have b1 := Int.emod_lt_of_pos y' (show 0 < (ns.length : Int) by omega)
    generalize y' % (ns.length : Int) = y at b0 b1
    refine gs_mid (fun σ' H' => ∃ x y : Int, 0 ≤ x ∧ x < (ns.length : Int) ∧ 0 ≤ y ∧ y < (ns.length : Int) ∧ ns.getD y.toNat 0 ≤ ns.getD x.toNat 0 ∧ σ' = [some (.int c), some (.ref a), some (.int N), some (.int x), some (.int y), none, none] ∧ H = H') ?_ ?_
    · walk_at "s"; walk_at "ks"
      refine r_ixL hS (at_getD a0 a1) ?_
      walk_at "ks"
      refine r_ixL hS (at_getD b0 b1) ?_
      walk_at "ks"
      refine ⟨fun hb => ?_, fun hb => ?_⟩
      · have h1 := of_decide_eq_true hb
        refine g1_par ?_
        walk_at "ks"
        exact ⟨_, _, rfl, fun H1 e1 => ⟨_, e1, y, x, b0, b1, a0, a1, by omega, rfl, rfl⟩⟩
      · have h1 := of_decide_eq_false hb
        exact g1_next fun H1 e1 => ⟨_, e1, x, y, a0, a1, b0, b1, by omega, rfl, rfl⟩
    rintro σ' H' ⟨x, y, a0, a1, b0, b1, hxy, rfl, rfl⟩
    walk_at "s"; walk_at "ks"
    refine r_ixL hS (at_getD a0 a1) ?_
    walk_at "ks"
    refine r_ixL hS (at_getD b0 b1) ?_
    walk_at "ks"
    have hov : ns.getD x.toNat 0 - ns.getD y.toNat 0 = ns.getD x.toNat 0 - ns.getD y.toNat 0 := rfl
    generalize hO : ns.getD x.toNat 0 - ns.getD y.toNat 0 = O at hov
    walk_at "s"; walk_at "ks"
    refine ⟨fun hb => ?_, fun hb => ?_⟩
    · walk_at "s"; walk_at "ks"
      exact q0
    have hO0 : O ≠ 0 := of_decide_eq_false hb
    have fit : ∀ d, 1 ≤ d → d ≤ O → Pg.Fits ns x y d := fun d h1 h2 => ⟨h1, a0, a1, b0, b1, by omega⟩
    walk_at "s"; walk_at "ks"
    generalize N * 40692 % 2147483399 = M
    have k0 := Int.emod_nonneg M (show (5 : Int) ≠ 0 by decide)
    have k1 := Int.emod_lt_of_pos M (show (0 : Int) < 5 by decide)
    generalize M % 5 = kd at k0 k1
    walk_at "s"; walk_at "ks"
    refine ⟨fun hb => ?_, fun hb => ?_⟩
    · have h3 := of_decide_eq_true hb
      walk_at "s"; walk_at "ks"
      refine ⟨(by show 3 ≤ 100000; decide), fun p np => ?_⟩
      walk_at "ks"
      have hk : kd = 0 ∨ kd = 1 ∨ kd = 2 := by omega
      rcases hk with rfl | rfl | rfl
      · refine r_ixL (v := .int O) (sq_of upd_same) rfl ?_
        walk_at "ks"
        refine ⟨(by show 3 ≤ 100000; decide), fun p2 np2 => ?_⟩
        exact (q _ _ _ p2 (fit O (by omega) (by omega)) (none_of_up np2).1).up (Ex.updm (Ex.new np))
      · refine r_ixL (v := .int 1) (sq_of upd_same) rfl ?_
        walk_at "ks"
        refine ⟨(by show 3 ≤ 100000; decide), fun p2 np2 => ?_⟩
        exact (q _ _ _ p2 (fit 1 (by omega) (by omega)) (none_of_up np2).1).up (Ex.updm (Ex.new np))
      · refine r_ixL (v := .int ((O + 1) / 2)) (sq_of upd_same) rfl ?_
        walk_at "ks"
        refine ⟨(by show 3 ≤ 100000; decide), fun p2 np2 => ?_⟩
        exact (q _ _ _ p2 (fit _ (by omega) (by omega)) (none_of_up np2).1).up (Ex.updm (Ex.new np))
    · walk_at "s"; walk_at "ks"
      have r0 := Int.emod_nonneg (N * 7 ^ Int.toNat 60) (show O ≠ 0 by omega)
      have r1 := Int.emod_lt_of_pos (N * 7 ^ Int.toNat 60) (show 0 < O by omega)
      refine ⟨(by show 3 ≤ 100000; decide), fun p2 np2 => ?_⟩
      exact q _ _ _ p2 (fit _ (by omega) (by omega)) np2

theorem ok_Ldone {C_PurseError C_NoGift : Addr} (T : TxtE K mg C_PurseError C_NoGift) {f : Addr} {fd : FuncData} (F : Fun K "_law_done" "_law_done" s_Ldone f fd) (B : Bl mg) : FnOk P w K mg base CX0 1 f fd ["_law_row_here", "_law_gift_here"] (spLdone K) := by
  refine F.ok sc_Ldone (fun vs H Q E h => ?_) (fun cdv A outer s H vs Q E hr h => ?_)
  · obtain ⟨a, b, ns, z, rfl, _⟩ := h
    rfl
  · obtain ⟨a, b, ns, ⟨gv, tk, am⟩, rfl, hS, hz0, f, q⟩ := h
    have hz : SqT K H b [.int gv, .int tk, .int am] := hz0
    dsimp only at q f
    have g0 := f.g0
    have gn := f.gn
    have t0 := f.t0
    have tn := f.tn
    have i0 : atI [V.int gv, V.int tk, V.int am] 0 = some (.int gv) := rfl
    have i1 : atI [V.int gv, V.int tk, V.int am] 1 = some (.int tk) := rfl
    have i2 : atI [V.int gv, V.int tk, V.int am] 2 = some (.int am) := rfl
    refine ⟨_, (pss_cons (ps_set (i := 2) sc_Ldone.nd rfl (Or.inl rfl) (pe_callTy (bList (K := K)) (by rfl) B.list_ boot_list (pa_cons (pv 0) pa_nil)))
      (pss_cons (ps_asg (pe_op op_sub (pe_ix (ixl (K := K)) (pv 0) (pe_ix (ixt (K := K)) (pv 1) pe_int (fun _ _ => rfl)) (fun _ _ => rfl)) (pe_ix (ixt (K := K)) (pv 1) pe_int (fun _ _ => rfl))) (pg_sub (pv 2) (pe_ix (ixt (K := K)) (pv 1) pe_int (fun _ _ => rfl)) set_list))
      (pss_cons (ps_asg (pe_op op_add (pe_ix (ixl (K := K)) (pv 0) (pe_ix (ixt (K := K)) (pv 1) pe_int (fun _ _ => rfl)) (fun _ _ => rfl)) (pe_ix (ixt (K := K)) (pv 1) pe_int (fun _ _ => rfl))) (pg_sub (pv 2) (pe_ix (ixt (K := K)) (pv 1) pe_int (fun _ _ => rfl)) set_list))
      (pss_one (ps_ret (pv 2)))))), Go.here ?_⟩
    walk_at "s"; walk_at "ks"
    refine c_list hS fun p np => ?_
    have hS2 := sq_up (o := .lst (ns.map V.int)) hS np
    have hz2 : SqT K (upd H p (.lst (ns.map V.int))) b [.int gv, .int tk, .int am] := ex_t (Ex.new np) hz
    walk_at "s"; walk_at "ks"
    refine r_ixT hz2 i0 ?_
    refine r_ixL hS2 (at_getD g0 gn) ?_
    walk_at "ks"
    refine r_ixT hz2 i2 ?_
    walk_at "ks"
    refine r_ixT hz2 i0 ?_
    refine ⟨p, ns.map V.int, gv, gv.toNat, rfl, rfl, upd_same, ixN_at g0 (by rw [List.length_map]; exact gn), ?_⟩
    rw [upd_upd, map_set_int]
    have hS3 := sq_up (o := .lst ((ns.set gv.toNat (ns.getD gv.toNat 0 - am)).map V.int)) hS np
    have hz3 : SqT K (upd H p (.lst ((ns.set gv.toNat (ns.getD gv.toNat 0 - am)).map V.int))) b [.int gv, .int tk, .int am] := ex_t (Ex.new np) hz
    walk_at "s"; walk_at "ks"
    refine r_ixT hz3 i1 ?_
    refine r_ixL hS3 (at_getD t0 tn) ?_
    walk_at "ks"
    refine r_ixT hz3 i2 ?_
    walk_at "ks"
    refine r_ixT hz3 i1 ?_
    refine ⟨p, _, tk, tk.toNat, rfl, rfl, upd_same, ixN_at t0 (by rw [List.length_map, List.length_set]; exact tn), ?_⟩
    rw [upd_upd, map_set_int]
    walk_at "s"; walk_at "ks"
    exact q p np

theorem ok_Lunfit {C_PurseError C_NoGift : Addr} (T : TxtE K mg C_PurseError C_NoGift) {f : Addr} {fd : FuncData} (F : Fun K "_law_unfit" "_law_unfit" s_Lunfit f fd) (B : Bl mg) {f_Lcell_at : Addr} {fd_Lcell_at : FuncData} (c_Lcell_at : Cl P w K mg base CX0 1 "_law_cell_at" f_Lcell_at fd_Lcell_at ["_law_script", "_law_k"] (spLcell_at K)) : FnOk P w K mg base CX0 2 f fd ["_law_script", "_law_row_here"] (spLunfit K) := by
  refine F.ok sc_Lunfit (fun vs H Q E h => ?_) (fun cdv A outer s H vs Q E hr h => ?_)
  · obtain ⟨a, b, ss, ns, rfl, _⟩ := h
    rfl
  · obtain ⟨a, b, ss, ns, rfl, hA, hS, hl, q⟩ := h
    refine ⟨_, (pss_cons (ps_set (i := 2) sc_Lunfit.nd rfl (Or.inl rfl) (pe_callB (call_max2 rfl) (by rfl) B.max_ boot_max (pa_cons pe_int (pa_cons (pe_callB (bLen (K := K)) (by rfl) B.len_ boot_len (pa_cons (pv 1) pa_nil)) pa_nil))))
      (pss_cons (ps_set (i := 3) sc_Lunfit.nd rfl (Or.inl rfl) (pe_op op_mod (pe_call c_Lcell_at.ok (hr.mono (by decide)) (by rfl) c_Lcell_at.gl c_Lcell_at.kp c_Lcell_at.bd .nil pass0 (pa_cons (pv 0) (pa_cons pe_int pa_nil))) pe_int))
      (pss_cons (ps_set (i := 4) sc_Lunfit.nd rfl (Or.inl rfl) (pe_op op_mod (pe_call c_Lcell_at.ok (hr.mono (by decide)) (by rfl) c_Lcell_at.gl c_Lcell_at.kp c_Lcell_at.bd .nil pass0 (pa_cons (pv 0) (pa_cons pe_int pa_nil))) (pv 2)))
      (pss_cons (ps_set (i := 5) sc_Lunfit.nd rfl (Or.inl rfl) (pe_op op_mod (pe_op op_add (pe_op op_add (pv 4) pe_int) (pe_op op_mod (pe_call c_Lcell_at.ok (hr.mono (by decide)) (by rfl) c_Lcell_at.gl c_Lcell_at.kp c_Lcell_at.bd .nil pass0 (pa_cons (pv 0) (pa_cons pe_int pa_nil))) (pe_callB (call_max2 rfl) (by rfl) B.max_ boot_max (pa_cons pe_int (pa_cons (pe_op op_sub (pv 2) pe_int) pa_nil))))) (pv 2)))
      (pss_cons (ps_if (pt_cmpR op_eq (pv 3) pe_int (nomark _)) (pss_one (ps_ret (pe_tup (pa_cons (pv 4) (pa_cons (pv 5) (pa_cons pe_int pa_nil)))))) pss_nil)
      (pss_cons (ps_if (pt_cmpR op_eq (pv 3) pe_int (nomark _)) (pss_one (ps_ret (pe_tup (pa_cons (pv 4) (pa_cons (pv 4) (pa_cons pe_int pa_nil)))))) pss_nil)
      (pss_cons (ps_if (pt_cmpR op_eq (pv 3) pe_int (nomark _)) (pss_one (ps_ret (pe_tup (pa_cons (pe_op op_sub (pv 4) (pv 2)) (pa_cons (pv 5) (pa_cons pe_int pa_nil)))))) pss_nil)
      (pss_cons (ps_if (pt_cmpR op_eq (pv 3) pe_int (nomark _)) (pss_one (ps_ret (pe_tup (pa_cons (pv 4) (pa_cons (pe_op op_add (pv 2) (pv 5)) (pa_cons pe_int pa_nil)))))) pss_nil)
      (pss_cons (ps_if (pt_cmpR op_eq (pe_callB (bLen (K := K)) (by rfl) B.len_ boot_len (pa_cons (pv 1) pa_nil)) pe_int (nomark _)) (pss_one (ps_ret (pe_tup (pa_cons pe_int (pa_cons pe_int (pa_cons pe_int pa_nil)))))) pss_nil)
      (pss_one (ps_ret (pe_tup (pa_cons (pv 4) (pa_cons (pv 5) (pa_cons (pe_op op_add (pe_callB (call_max2 rfl) (by rfl) B.max_ boot_max (pa_cons pe_int (pa_cons (pe_op op_sub (pe_ix (ixl (K := K)) (pv 1) (pv 4) (fun _ _ => rfl)) (pe_ix (ixl (K := K)) (pv 1) (pv 5) (fun _ _ => rfl))) pa_nil))) pe_int) pa_nil))))))))))))))), Go.here ?_⟩
    walk_at "s"; walk_at "ks"
    refine c_len hS ?_
    rw [List.length_map]
    walk_at "ks"
    refine c_max2 ?_
    have hm : ∃ m : Int, (if (ns.length : Int) > 1 then (ns.length : Int) else 1) = m ∧ 1 ≤ m ∧ (ns.length : Int) ≤ m ∧ (1 ≤ (ns.length : Int) → m = (ns.length : Int)) ∧ m ≤ 100 := by
      refine ⟨_, rfl, ?_⟩
      split <;> omega
    obtain ⟨m, em, m1, m2, m3, m4⟩ := hm
    rw [em]
    walk_at "s"; walk_at "ks"
    refine k_Lcell_at hA (by decide) ?_
    walk_at "ks"
    generalize cellAt ss 1 = c1
    have k0 := Int.emod_nonneg c1 (show (5 : Int) ≠ 0 by decide)
    have k1 := Int.emod_lt_of_pos c1 (show (0 : Int) < 5 by decide)
    generalize c1 % 5 = kd at k0 k1
    walk_at "s"; walk_at "ks"
    refine k_Lcell_at hA (by decide) ?_
    walk_at "ks"
    have a0 := Int.emod_nonneg (cellAt ss 2) (show m ≠ 0 by omega)
    have a1 := Int.emod_lt_of_pos (cellAt ss 2) (show 0 < m by omega)
    generalize cellAt ss 2 % m = x at a0 a1
    walk_at "s"; walk_at "ks"
    refine k_Lcell_at hA (by decide) ?_
    walk_at "ks"
    refine c_max2 ?_
    have hm2 : 1 ≤ (if m - 1 > 1 then m - 1 else 1) := by split <;> omega
    generalize (if m - 1 > 1 then m - 1 else 1) = m' at hm2
    walk_at "ks"
    generalize x + 1 + cellAt ss 0 % m' = y'
    have b0 := Int.emod_nonneg y' (show m ≠ 0 by omega)
    have b1 := Int.emod_lt_of_pos y' (show 0 < m by omega)
    generalize y' % m = y at b0 b1
    walk_at "s"; walk_at "ks"
    refine ⟨fun hb => ?_, fun hb => ?_⟩
    · walk_at "s"; walk_at "ks"
      refine ⟨(by show 3 ≤ 100000; decide), fun p np => q _ _ _ p (fun f => ?_) np⟩
      have := f.d1
      omega
    walk_at "s"; walk_at "ks"
    refine ⟨fun hb => ?_, fun hb => ?_⟩
    · walk_at "s"; walk_at "ks"
      refine ⟨(by show 3 ≤ 100000; decide), fun p np => q _ _ _ p (fun f => ?_) np⟩
      exact f.ne rfl
    walk_at "s"; walk_at "ks"
    refine ⟨fun hb => ?_, fun hb => ?_⟩
    · walk_at "s"; walk_at "ks"
      refine ⟨(by show 3 ≤ 100000; decide), fun p np => q _ _ _ p (fun f => ?_) np⟩
      have := f.g0
      omega
    walk_at "s"; walk_at "ks"
    refine ⟨fun hb => ?_, fun hb => ?_⟩
    · walk_at "s"; walk_at "ks"
      refine ⟨(by show 3 ≤ 100000; decide), fun p np => q _ _ _ p (fun f => ?_) np⟩
      have := f.tn
      omega
    walk_at "s"; walk_at "ks"
    refine c_len hS ?_
    rw [List.length_map]
    walk_at "ks"
    refine ⟨fun hb => ?_, fun hb => ?_⟩
    · have h0 := of_decide_eq_true hb
      walk_at "s"; walk_at "ks"
      refine ⟨(by show 3 ≤ 100000; decide), fun p np => q _ _ _ p (fun f => ?_) np⟩
      have := f.gn
      omega
    have h0 := of_decide_eq_false hb
    have em2 := m3 (by omega)
    walk_at "s"; walk_at "ks"
    refine r_ixL hS (at_getD a0 (by omega)) ?_
    walk_at "ks"
    refine r_ixL hS (at_getD b0 (by omega)) ?_
    walk_at "ks"
    refine c_max2 ?_
    walk_at "ks"
    refine ⟨(by show 3 ≤ 100000; decide), fun p np => q _ _ _ p (fun f => ?_) np⟩
    have h5 := f.more
    split at h5 <;> omega

theorem ok_Lmixed {C_PurseError C_NoGift : Addr} (T : TxtE K mg C_PurseError C_NoGift) {f : Addr} {fd : FuncData} (F : Fun K "_law_mixed" "_law_mixed" s_Lmixed f fd) (B : Bl mg) {f_Lcell_at : Addr} {fd_Lcell_at : FuncData} (c_Lcell_at : Cl P w K mg base CX0 1 "_law_cell_at" f_Lcell_at fd_Lcell_at ["_law_script", "_law_k"] (spLcell_at K)) : FnOk P w K mg base CX0 2 f fd ["_law_script", "_law_k"] (spLmixed K) := by
  refine F.ok sc_Lmixed (fun vs H Q E h => ?_) (fun cdv A outer s H vs Q E hr h => ?_)
  · obtain ⟨a, ns, k, rfl, _⟩ := h
    rfl
  · obtain ⟨a, ns, k, rfl, hS, hB, h0, hk, q⟩ := h
    refine ⟨_, (pss_cons (ps_set (i := 2) sc_Lmixed.nd rfl (Or.inl rfl) (pe_op op_add (pe_op op_add (pe_op op_add (pe_op op_mulX (pe_op op_mulX pe_int (pv 1)) (pv 1)) (pe_op op_mulX pe_int (pv 1))) pe_int) (pe_op op_mulX (pe_op op_mod (pe_call c_Lcell_at.ok (hr.mono (by decide)) (by rfl) c_Lcell_at.gl c_Lcell_at.kp c_Lcell_at.bd .nil pass0 (pa_cons (pv 0) (pa_cons pe_int pa_nil))) (pe_op op_pow pe_int pe_int)) (pe_op op_add pe_int (pe_op op_mulX (pv 1) (pv 1))))))
      (pss_cons (ps_if (pt_cmpR op_gt (pe_callB (bLen (K := K)) (by rfl) B.len_ boot_len (pa_cons (pv 0) pa_nil)) pe_int (nomark _)) (pss_one (ps_set (i := 2) sc_Lmixed.nd rfl (Or.inl rfl) (pe_op op_add (pv 2) (pe_op op_mulX (pe_op op_mod (pe_ix (ixl (K := K)) (pv 0) (pe_op op_mod (pe_op op_mulX pe_int (pv 1)) (pe_callB (bLen (K := K)) (by rfl) B.len_ boot_len (pa_cons (pv 0) pa_nil))) (fun _ _ => rfl)) (pe_op op_pow pe_int pe_int)) (pe_op op_add pe_int (pv 1)))))) pss_nil)
      (pss_one (ps_ret (pe_op op_mulX (pv 2) (pv 2)))))), Go.here ?_⟩
    walk_at "s"; walk_at "ks"
    refine k_Lcell_at hS (by decide) ?_
    walk_at "ks"
    walk_at "s"; walk_at "ks"
    refine c_len hS ?_
    walk_at "ks"
    rw [List.length_map]
    refine ⟨fun hb => ?_, fun hb => ?_⟩
    · have hb' := of_decide_eq_true hb
      walk_at "s"; walk_at "ks"
      refine c_len hS ?_
      rw [List.length_map]
      walk_at "ks"
      have m0 := Int.emod_nonneg (7 * k) (show (ns.length : Int) ≠ 0 by omega)
      have m1 := Int.emod_lt_of_pos (7 * k) (show 0 < (ns.length : Int) by omega)
      refine r_ixL hS (at_getD m0 m1) ?_
      walk_at "ks"
      walk_at "s"; walk_at "ks"
      exact q _ (Bd.mono (by walk_at "bd") (by decide +kernel))
    · walk_at "s"; walk_at "ks"
      exact q _ (Bd.mono (by walk_at "bd") (by decide +kernel))
theorem ok_Lrow {C_PurseError C_NoGift : Addr} (T : TxtE K mg C_PurseError C_NoGift) {f : Addr} {fd : FuncData} (F : Fun K "_law_row" "_law_row" s_Lrow f fd) (B : Bl mg) {f_Lcell_at : Addr} {fd_Lcell_at : FuncData} (c_Lcell_at : Cl P w K mg base CX0 1 "_law_cell_at" f_Lcell_at fd_Lcell_at ["_law_script", "_law_k"] (spLcell_at K)) {f_Lmixed : Addr} {fd_Lmixed : FuncData} (c_Lmixed : Cl P w K mg base CX0 2 "_law_mixed" f_Lmixed fd_Lmixed ["_law_script", "_law_k"] (spLmixed K)) : FnOk P w K mg base CX0 3 f fd ["_law_script"] (spLrow K) := by
  refine F.ok sc_Lrow (fun vs H Q E h => ?_) (fun cdv A outer s H vs Q E hr h => ?_)
  · obtain ⟨a, ns, rfl, _⟩ := h
    rfl
  · obtain ⟨a, ns, rfl, hS, hB, q⟩ := h
    refine ⟨_, (pss_cons (ps_set (i := 1) sc_Lrow.nd rfl (Or.inl rfl) (pe_op op_mod (pe_call c_Lcell_at.ok (hr.mono (by decide)) (by rfl) c_Lcell_at.gl c_Lcell_at.kp c_Lcell_at.bd .nil pass0 (pa_cons (pv 0) (pa_cons pe_int pa_nil))) (pe_op op_pow pe_int pe_int)))
      (pss_cons (ps_set (i := 2) sc_Lrow.nd rfl (Or.inl rfl) (pe_op op_add pe_int (pe_op op_mod (pe_op op_fdiv (pv 1) pe_int) pe_int)))
      (Evl.pss_cut (ps_if (pt_cmpR op_eq (pe_op op_mod (pe_op op_fdiv (pv 1) pe_int) pe_int) pe_int (nomark _)) (pss_one (ps_set (i := 2) sc_Lrow.nd rfl (Or.inl rfl) (pe_op op_mod (pe_op op_fdiv (pv 1) pe_int) pe_int))) pss_nil)
      (pss_cons (ps_set (i := 3) sc_Lrow.nd rfl (Or.inl rfl) (pe_lst pa_nil))
      (pss_cons (ps_for PassesOwn.never rfl (pi_range1 (by rfl) B.range_ (pa_cons (pv 2) pa_nil)) (pg_name (i := 4) sc_Lrow.nd rfl (Or.inl rfl)) (pss_cons (ps_set (i := 5) sc_Lrow.nd rfl (Or.inl rfl) (pe_call c_Lmixed.ok (hr.mono (by decide)) (by rfl) c_Lmixed.gl c_Lmixed.kp c_Lmixed.bd .nil pass0 (pa_cons (pv 0) (pa_cons (pv 4) pa_nil))))
      (pss_one (ps_if (pt_cmpR op_eq (pe_op op_mod (pv 1) pe_int) pe_int (nomark _)) (pss_one (ps_expr (peBm (K := K) PySem.F.plainAttrs_list PySem.F.slot_list_append PySem.F.type_list_append mt_append (pv 3) (pa_cons (pe_op op_sub (pe_op op_mod (pv 5) pe_int) pe_int) pa_nil)))) (pss_one (ps_expr (peBm (K := K) PySem.F.plainAttrs_list PySem.F.slot_list_append PySem.F.type_list_append mt_append (pv 3) (pa_cons (pe_op op_sub (pe_op op_mod (pe_op op_mulX (pv 5) (pe_op op_pow pe_int pe_int)) (pe_op op_add (pe_op op_mulX pe_int (pe_op op_pow pe_int pe_int)) pe_int)) (pe_op op_pow pe_int pe_int)) pa_nil))))))))
      (pss_one (ps_ret (pv 3)))))))), Go.here ?_⟩
    walk_at "s"; walk_at "ks"
    refine k_Lcell_at hS (by decide) ?_
    walk_at "ks"
    generalize cellAt ns 0 % 10 ^ Int.toNat 9 = c
    walk_at "s"; walk_at "ks"
    have m0 := Int.emod_nonneg (c / 3) (show (7 : Int) ≠ 0 by decide)
    have m1 := Int.emod_lt_of_pos (c / 3) (show (0 : Int) < 7 by decide)
    have m2 := Int.emod_nonneg (c / 168) (show (25 : Int) ≠ 0 by decide)
    have m3 := Int.emod_lt_of_pos (c / 168) (show (0 : Int) < 25 by decide)
    refine gs_mid (fun σ' H' => ∃ m : Int, 0 ≤ m ∧ m ≤ 60 ∧ σ' = [some (.ref a), some (.int c), some (.int m), none, none, none] ∧ H = H') ?_ ?_
    · walk_at "s"; walk_at "ks"
      refine ⟨fun _ => ?_, fun _ => ?_⟩
      · walk_at "s"; walk_at "ks"
        exact fun H1 e1 => ⟨_, e1, _, m2, by omega, rfl, rfl⟩
      · exact g1_next fun H1 e1 => ⟨_, e1, _, by omega, by omega, rfl, rfl⟩
    rintro σ' H' ⟨m, n0, n1, rfl, rfl⟩
    walk_at "s"; walk_at "ks"
    refine ⟨by decide, fun p np => ?_⟩
    refine gs_forR (n := m) (fun i σ' H' => ∃ (v u : Option V) (ms : List Int), AllBd 210 ms ∧ σ' = [some (.ref a), some (.int c), some (.int m), some (.ref p), v, u] ∧ ms.length = i ∧ H' = upd H p (.lst (ms.map V.int))) ?_ ?_ ?_
    · walk_at "ks"
      exact ⟨rfl, by omega, n0, none, none, [], (fun _ h => nomatch h), rfl, rfl, rfl⟩
    · rintro i σ' H' hi ⟨v, u, ms, hms, rfl, rfl, rfl⟩
      have hS2 := sq_up (o := .lst (ms.map V.int)) hS np
      walk_at "s"; walk_at "ks"
      refine k_Lmixed hS2 hB (by omega) (by unfold Bd; omega) fun z hz => ?_
      walk_at "s"; walk_at "ks"
      refine ⟨fun hb => ?_, fun hb => ?_⟩
      · walk_at "s"; walk_at "ks"
        refine ⟨tyl (sq_of upd_same), ?_⟩
        walk_at "ks"
        refine m_append upd_same (by rw [List.length_map]; omega) fun H1 e1 => ⟨_, e1, _, _, ms ++ [z % 7 - 3], hms.snoc (Bd.mono (by walk_at "bd") (by decide +kernel)), rfl, by rw [List.length_append]; rfl, ?_⟩
        rw [upd_upd, List.map_append]
        rfl
      · walk_at "s"; walk_at "ks"
        refine ⟨tyl (sq_of upd_same), ?_⟩
        walk_at "ks"
        refine m_append upd_same (by rw [List.length_map]; omega) fun H1 e1 => ⟨_, e1, _, _, ms ++ [z * 7 ^ Int.toNat 60 % (2 * 10 ^ Int.toNat 60 + 1) - 10 ^ Int.toNat 60], hms.snoc (Bd.mono (by walk_at "bd") (by decide +kernel)), rfl, by rw [List.length_append]; rfl, ?_⟩
        rw [upd_upd, List.map_append]
        rfl
    · rintro σ' H' ⟨v, u, ms, hms, rfl, hm, rfl⟩
      walk_at "s"; walk_at "ks"
      exact q ms p (by omega) hms np
theorem ok_blended {C_PurseError C_NoGift : Addr} (T : TxtE K mg C_PurseError C_NoGift) {f : Addr} {fd : FuncData} (F : Fun K "blended" "blended" s_blended f fd) (B : Bl mg) : FnOk P w K mg base CX0 1 f fd ["ones", "others", "stay", "move"] (spblended K) := by
  refine F.ok sc_blended (fun vs H Q E h => ?_) (fun cdv A outer s H vs Q E hr h => ?_)
  · obtain ⟨a, b, as, bs, x, y, rfl, _⟩ := h
    rfl
  · obtain ⟨a, b, as, bs, x, y, rfl, h1, h2, hl, hl2, b1, b2, bx, hy, q⟩ := h
    refine ⟨_, (pss_one (ps_ret (pe_lc (own := [("one", 4), ("other", 5)]) (g := gTup K 2 (gCons (gName 4) (gCons (gName 5) gNil))) (tt := tYes) rfl sc_blended.nd (piZ (K := K) (by rfl) B.zip_ (pa_cons (pv 0) (pa_cons (pv 1) pa_nil))) (blkOk_by (own := [("one", 4), ("other", 5)]) (N := n_blended) (sc := defScope s_blended) (by decide +kernel)) (fun _ _ _ _ _ => pgT (K := K) (n := 2) rfl (pgs_cons (pg_name (i := 4) sc_blended.nd rfl (Or.inl rfl)) (pgs_cons (pg_name (i := 5) sc_blended.nd rfl (Or.inl rfl)) pgs_nil))) (fun _ _ _ _ _ => pts_nil) (fun _ _ _ _ _ => (pe_op op_add (pe_op op_mulX (pv 2) (pv 4)) (pe_op op_mulX (pv 3) (pv 5))))))), Go.here ?_⟩
    walk_at "s"
    refine k_lcZ (fun p q => match p, q with | .int p, .int q => .int (x * p + y * q) | _, _ => .non) ?_
    walk_at "ks"
    refine ⟨a, b, as.map V.int, bs.map V.int, rfl, by rw [List.length_map]; omega, by rw [List.length_map, List.length_map, hl], h1, h2, fun _ _ => rfl, fun k u v Hz hu hv ez => ?_, fun p np => ?_⟩
    · obtain ⟨u, gu, rfl⟩ := Pm.map_at hu
      obtain ⟨v, gv, rfl⟩ := Pm.map_at hv
      have bu := b1 u (List.mem_of_getElem? gu)
      have bv := b2 v (List.mem_of_getElem? gv)
      walk_at "ks"
      exact ⟨rfl, rfl⟩
    · have e : List.zipWith (fun p q : V => match p, q with | .int p, .int q => V.int (x * p + y * q) | _, _ => .non) (as.map V.int) (bs.map V.int) = (Pt.bl as bs x y).map V.int := by
        unfold Pt.bl
        rw [List.zipWith_map, List.map_zipWith]
      rw [e]
      exact q p np
theorem ok_shares {C_PurseError C_NoGift : Addr} (T : TxtE K mg C_PurseError C_NoGift) {f : Addr} {fd : FuncData} (F : Fun K "shares" "shares" s_shares f fd) (B : Bl mg) {f_blended : Addr} {fd_blended : FuncData} (c_blended : Cl P w K mg base CX0 1 "blended" f_blended fd_blended ["ones", "others", "stay", "move"] (spblended K)) {f_done : Addr} {fd_done : FuncData} (c_done : Cl P w K mg base (L2.CX P w) 2 "done" f_done fd_done ["row", "gift"] (spdone K C_NoGift)) : FnOk P w K mg base (L2.CX P w) 3 f fd ["row", "gifts"] (spshares K C_NoGift) := by
  refine F.okX sc_shares (fun vs H Q E h => ?_) (fun cdv A outer s H vs Q E hr h => ?_)
  · obtain ⟨a, b, ns, gs, Gs, rfl, _⟩ := h
    rfl
  · obtain ⟨a, b, ns, gs, Gs, rfl, hS, hG, hl, hl2, hB, qe, q⟩ := h
    refine ⟨_, (pss_cons (ps_setLc (i := 2) (own := [("k", 12)]) (g := gName 12) (tt := tYes) rfl sc_shares.nd rfl rfl (sw_true rfl rfl rfl (by decide +kernel)) (pi_range1 (by rfl) B.range_ (pa_cons (pe_callB (bLen (K := K)) (by rfl) B.len_ boot_len (pa_cons (pv 0) pa_nil)) pa_nil)) (blkOk_by (own := [("k", 12)]) (N := n_shares) (sc := defScope s_shares) (by decide +kernel)) (fun _ _ _ _ _ => pg_name (i := 12) sc_shares.nd rfl (Or.inr rfl)) (fun _ _ _ _ _ => pts_nil) (fun _ _ _ _ _ => (pe_lc (own := [("j", 13)]) (g := gName 13) (tt := tYes) rfl sc_shares.nd (pi_range1 (by rfl) B.range_ (pa_cons (pe_callB (bLen (K := K)) (by rfl) B.len_ boot_len (pa_cons (pv 0) pa_nil)) pa_nil)) (blkOk_rel (own := [("j", 13)]) (N := n_shares) (e0 := envOfC "shares" (defScope s_shares) 0 0 .none) (hd := by decide +kernel)) (fun _ _ _ _ _ => pg_name (i := 13) sc_shares.nd rfl (Or.inl rfl)) (fun _ _ _ _ _ => pts_nil) (fun _ _ _ _ _ => (pe_callTy call_int1 (by rfl) B.int_ boot_int (pa_cons (pe_cmpR op_eq (pv 12) (pv 13) (nomark _)) pa_nil))))))
      (pss_cons (ps_set (i := 3) sc_shares.nd rfl (Or.inl rfl) pe_int)
      (pss_cons (ps_set (i := 4) sc_shares.nd rfl (Or.inl rfl) (pe_callTy (bList (K := K)) (by rfl) B.list_ boot_list (pa_cons (pv 0) pa_nil)))
      (pss_cons (ps_for (passes_of rfl) rfl (piL (K := K) (pv 1)) (pg_name (i := 5) sc_shares.nd rfl (Or.inl rfl)) (pss_cons (ps_set (i := 6) sc_shares.nd rfl (Or.inl rfl) (peX (E := E) (pe_call c_done.ok (hr.mono (by decide)) (by rfl) c_done.gl c_done.kp c_done.bd .nil (passes_call (takes_of rfl rfl rfl rfl) (fun _ _ _ _ h => h)) (pa_cons (pv 4) (pa_cons (pv 5) pa_nil)))))
      (pss_cons (ps_asg (pv 5) (pgT (K := K) (n := 3) rfl (pgs_cons (pg_name (i := 7) sc_shares.nd rfl (Or.inl rfl)) (pgs_cons (pg_name (i := 8) sc_shares.nd rfl (Or.inl rfl)) (pgs_cons (pg_name (i := 9) sc_shares.nd rfl (Or.inl rfl)) pgs_nil)))))
      (pss_cons (ps_set (i := 10) sc_shares.nd rfl (Or.inr rfl) (pe_op op_sub (pe_ix (ixl (K := K)) (pv 4) (pv 7) (fun _ _ => rfl)) (pe_ix (ixl (K := K)) (pv 4) (pv 8) (fun _ _ => rfl))))
      (pss_cons (ps_setLc (i := 11) (own := [("parts", 14)]) (g := gName 14) (tt := tYes) rfl sc_shares.nd rfl rfl (sw_true rfl rfl rfl (by decide +kernel)) (piL (K := K) (pv 2)) (blkOk_by (own := [("parts", 14)]) (N := n_shares) (sc := defScope s_shares) (by decide +kernel)) (fun _ _ _ _ _ => pg_name (i := 14) sc_shares.nd rfl (Or.inl rfl)) (fun _ _ _ _ _ => pts_nil) (fun _ _ _ _ _ => (pe_lc (own := [("part", 15)]) (g := gName 15) (tt := tYes) rfl sc_shares.nd (piL (K := K) (pv 14)) (blkOk_rel (own := [("part", 15)]) (N := n_shares) (e0 := envOfC "shares" (defScope s_shares) 0 0 .none) (hd := by decide +kernel)) (fun _ _ _ _ _ => pg_name (i := 15) sc_shares.nd rfl (Or.inl rfl)) (fun _ _ _ _ _ => pts_nil) (fun _ _ _ _ _ => (pe_op op_mulX (pv 10) (pv 15))))))
      (pss_cons (ps_asg (pe_call c_blended.ok (hr.mono (by decide)) (by rfl) c_blended.gl c_blended.kp c_blended.bd .nil pass0 (pa_cons (pe_ix (ixl (K := K)) (pv 2) (pv 7) (fun _ _ => rfl)) (pa_cons (pe_ix (ixl (K := K)) (pv 2) (pv 8) (fun _ _ => rfl)) (pa_cons (pe_op op_sub (pv 10) (pv 9)) (pa_cons (pv 9) pa_nil))))) (pg_sub (pv 11) (pv 7) set_list))
      (pss_cons (ps_asg (pe_call c_blended.ok (hr.mono (by decide)) (by rfl) c_blended.gl c_blended.kp c_blended.bd .nil pass0 (pa_cons (pe_ix (ixl (K := K)) (pv 2) (pv 7) (fun _ _ => rfl)) (pa_cons (pe_ix (ixl (K := K)) (pv 2) (pv 8) (fun _ _ => rfl)) (pa_cons (pv 9) (pa_cons (pe_op op_sub (pv 10) (pv 9)) pa_nil))))) (pg_sub (pv 11) (pv 8) set_list))
      (pss_cons (ps_set (i := 2) sc_shares.nd rfl (Or.inl rfl) (pv 11))
      (pss_cons (ps_set (i := 3) sc_shares.nd rfl (Or.inl rfl) (pe_op op_mulX (pv 3) (pv 10)))
      (pss_one (ps_set (i := 4) sc_shares.nd rfl (Or.inl rfl) (pv 6))))))))))))
      (pss_one (ps_ret (pe_tup (pa_cons (pv 2) (pa_cons (pv 3) pa_nil))))))))), Go.here ?_⟩
    walk_at "s"
    refine k_lcWR ?_
    walk_at "ks"
    refine c_len hS ?_
    rw [List.length_map]
    walk_at "ks"
    have idl : (Pt.ident ns.length).length = ns.length := (Pt.good0 ns).len
    refine ⟨(ns.length : Int), Gw H (Pt.ident ns.length), rfl, by omega, by omega, fun D nD => Gw.zero nD, ?_, ?_, ?_⟩
    · rintro D i acc Hy nD ⟨qs, rfl, hql, _, hD, _⟩
      exact ⟨by rw [List.length_map, hql]; exact Nat.le_refl _, hD⟩
    · rintro D i acc Hy nD hi G
      have ex : Ex H Hy := by
        obtain ⟨_, _, _, ex, _⟩ := G
        exact ex
      refine gk_name ⟨rfl, kt_yes ⟨fun _ => ?_, fun hb => Bool.noConfusion hb⟩⟩
      refine k_lcR (n := (ns.length : Int)) (fun j => .int (if i = j then 1 else 0)) ?_
      walk_at "ks"
      refine c_len (ex_l ex hS) ?_
      rw [List.length_map]
      walk_at "ks"
      refine ⟨rfl, by omega, by omega, fun _ => rfl, fun j Hz hj ez => ?_, fun p np => ?_⟩
      · walk_at "ks"
        refine c_intB ⟨?_, rfl⟩
        by_cases c : i = j
        · subst c
          rw [decide_eq_true rfl, if_pos rfl, if_pos rfl]
        · rw [decide_eq_false (fun h => c (by omega)), if_neg c]
          rfl
      · have er : (Pt.ident ns.length)[i]? = some ((List.range ns.length).map fun j => if i = j then 1 else 0) := by
          unfold Pt.ident
          rw [List.getElem?_map, List.getElem?_range (by omega)]
          rfl
        have e5 : (List.range ((ns.length : Int)).toNat).map (fun j => V.int (if i = j then 1 else 0)) = ((List.range ns.length).map fun j => if i = j then (1 : Int) else 0).map V.int := by
          rw [Int.toNat_natCast, List.map_map]
          rfl
        rw [e5]
        exact G.more nD er np
    rintro T acc H1 nT G
    have G2 : Gw H (Pt.ident ns.length) T (Pt.ident ns.length).length acc H1 := by
      rw [idl]
      exact G
    obtain ⟨ts, hT, e1, fr1⟩ := G2.tab
    walk_at "s"; walk_at "ks"
    walk_at "s"; walk_at "ks"
    refine c_list (ex_l e1 hS) fun c nc => ?_
    have e2 := e1.trans (Ex.new (o := .lst (ns.map V.int)) nc)
    have hT2 := hT.up (Ex.new (o := .lst (ns.map V.int)) nc)
    have c2 : (upd H1 c (.lst (ns.map V.int))) c = some (.lst (ns.map V.int)) := upd_same
    generalize upd H1 c (.lst (ns.map V.int)) = H2 at e2 hT2 c2
    refine gs_forG ?_
    walk_at "ks"
    refine ⟨b, gs.map V.ref, fun i σ' H' => ∃ (T c : Addr) (ts : List Addr) (v5 v6 v7 v8 v9 v10 v11 : Option V), σ' = [some (.ref a), some (.ref b), some (.ref T), some (.int (Pt.st ns (Gs.take i)).s), some (.ref c), v5, v6, v7, v8, v9, v10, v11, none, none, none, none] ∧ Ex H H' ∧ TabH H' T ts (Pt.st ns (Gs.take i)).M ∧ (∀ r ∈ ts, H r = none) ∧ SqL K H' c ((Pt.st ns (Gs.take i)).cur.map V.int) ∧ Pg.walk ns (Gs.take i) = some (Pt.st ns (Gs.take i)).cur ∧ Upto ns Gs i, rfl, (hG.up e2).lst, ⟨T, c, ts, none, none, none, none, none, none, none, rfl, e2, hT2, fr1, sq_of c2, rfl, .zero hB⟩, ?_, ?_, ?_⟩
    · rintro i σ' H' _ ⟨_, _, _, _, _, _, _, _, _, _, _, e, _⟩
      exact (hG.up e).lst
    · rintro i x σ' H' hx ⟨T, c, ts, v5, v6, v7, v8, v9, v10, v11, rfl, e, hT, fr, hc, hw, U⟩
      obtain ⟨g, hg, rfl⟩ := refs_at hx
      have hil : i < Gs.length := by
        have := (List.getElem?_eq_some_iff.mp hg).1
        rw [hG.len] at this
        exact this
      obtain ⟨z, hz⟩ : ∃ z, Gs[i]? = some z := ⟨_, List.getElem?_eq_getElem hil⟩
      have hgz := (hG.up e).tup i g z hg hz
      refine gk_name ?_
      walk_at "s"; walk_at "ks"
      refine k_callX ?_
      walk_at "ks"
      refine k_done hc hgz (fun nf => ?_) fun f p np => ?_
      · refine (qe ?_).up e
        have e5 : Gs = Gs.take i ++ z :: Gs.drop (i + 1) := by
          rw [← List.drop_eq_getElem_cons_of hz, List.take_append_drop]
        rw [e5]
        exact Pg.walk_stop hw nf
      obtain ⟨gv, tk, am⟩ := z
      dsimp only at f np hgz
      have est : Pt.st ns (Gs.take (i + 1)) = Pt.step (Pt.st ns (Gs.take i)) (gv, tk, am) := by rw [Pm.take_more hz, Pt.st_snoc]
      have U2 := U.succ hz f
      have hw2 : Pg.walk ns (Gs.take (i + 1)) = some (Pt.st ns (Gs.take (i + 1))).cur := by
        rw [est, Pm.take_more hz]
        exact Pg.walk_snoc hw f
      have hb := U.entry (by omega)
      have go := U.good
      have bcur := U.bc
      have Ubs := U.bs
      generalize Pt.st ns (Gs.take i) = S at f hT hc go hb bcur est Ubs ⊢
      obtain ⟨cur, M, sc⟩ := S
      dsimp only at f hT hc hb bcur Ubs
      have g0 := f.g0
      have gn := f.gn
      have t0 := f.t0
      have tn := f.tn
      have hML : M.length = ns.length := go.len
      have hcl : cur.length = ns.length := go.curlen
      have hgM : gv.toNat < M.length := by omega
      have htM : tk.toNat < M.length := by omega
      have e3 := e.trans (Ex.new (o := .lst ((Pg.done cur gv tk am).map V.int)) np)
      have eT := Ex.new (o := .lst ((Pg.done cur gv tk am).map V.int)) np
      have hT3 := hT.up eT
      have hc3 := ex_l eT hc
      have hgz3 := ex_t eT hgz
      have p3 : (upd H' p (.lst ((Pg.done cur gv tk am).map V.int))) p = some (.lst ((Pg.done cur gv tk am).map V.int)) := upd_same
      generalize upd H' p (.lst ((Pg.done cur gv tk am).map V.int)) = H3 at e3 hT3 hc3 hgz3 p3
      refine gs_asgG ?_
      walk_at "ks"
      refine gk_tup3 (x := .int gv) (y := .int tk) (z := .int am) hgz3 (gk_name (gk_name (gk_name ?_)))
      walk_at "s"; walk_at "ks"
      refine r_ixL hc3 (at_getD g0 gn) ?_
      walk_at "ks"
      refine r_ixL hc3 (at_getD t0 tn) ?_
      walk_at "ks"
      have ho : cur.getD gv.toNat 0 - cur.getD tk.toNat 0 = Pt.ov cur (gv, tk, am) := rfl
      rw [ho]
      have bo := bd_ov bcur (gv, tk, am)
      have ba : Bd 211 am := by
        have h1 := f.d1
        have h2 : am ≤ Pt.ov cur (gv, tk, am) := f.more
        unfold Bd at bo ⊢
        omega
      have hstep : Pt.step ⟨cur, M, sc⟩ (gv, tk, am) = ⟨Pg.done cur gv tk am, Pt.mx M gv.toNat tk.toNat (Pt.ov cur (gv, tk, am)) am, sc * Pt.ov cur (gv, tk, am)⟩ := rfl
      have bsc : Bd 30000 sc := Bd.mono Ubs (by omega)
      generalize Pt.ov cur (gv, tk, am) = o at bo hstep ⊢
      walk_at "s"
      refine k_lcW ?_
      walk_at "ks"
      refine ⟨T, ts.map V.ref, Gw H3 (M.map (Pt.sc o)), rfl, by rw [List.length_map, hT3.len]; omega, sq_of hT3.lst, fun D nD => Gw.zero nD, ?_, ?_, ?_⟩
      · rintro D j acc Hy nD ⟨qs, rfl, hql, ex, hD, _⟩
        exact ⟨sq_of (ex _ _ hT3.lst), by rw [List.length_map, hql]; exact Nat.le_refl _, hD⟩
      · rintro D j x acc Hy nD hx G
        have ex : Ex H3 Hy := by
          obtain ⟨_, _, _, ex, _⟩ := G
          exact ex
        obtain ⟨r, hr, rfl⟩ := refs_at hx
        obtain ⟨l, hlr⟩ : ∃ l, M[j]? = some l := ⟨_, List.getElem?_eq_getElem (by rw [← hT3.len]; exact (List.getElem?_eq_some_iff.mp hr).1)⟩
        have hbl := hb l (List.mem_of_getElem? hlr)
        have hll : l.length = ns.length := go.rlen l (List.mem_of_getElem? hlr)
        refine gk_name ⟨rfl, kt_yes ⟨fun _ => ?_, fun hb => Bool.noConfusion hb⟩⟩
        refine k_lcI (a := r) (ns := l) (fun x => o * x) ?_
        walk_at "ks"
        refine ⟨rfl, sq_of (ex _ _ (hT3.row j r l hr hlr)), by omega, fun _ => rfl, fun y Hz hy ez => ?_, fun q nq => ?_⟩
        · have by_ := hbl y hy
          walk_at "ks"
          exact ⟨rfl, rfl⟩
        · exact G.more (r := Pt.sc o l) nD (by rw [List.getElem?_map, hlr]; rfl) nq
      rintro D acc H4 nD G
      have G2 : Gw H3 (M.map (Pt.sc o)) D (M.map (Pt.sc o)).length acc H4 := by
        rw [List.length_map, ← hT3.len]
        rw [List.length_map] at G
        exact G
      obtain ⟨qs, hD, e34, fr4⟩ := G2.tab
      have e4 := e3.trans e34
      have nD0 : H D = none := fresh_back e3 nD
      have hT4 := hT3.up e34
      have p4 := e34 _ _ p3
      have hqs : qs.length = ns.length := by rw [hD.len, List.length_map]; exact hML
      have fr40 : ∀ r ∈ qs, H r = none := fun r hr => fresh_back e3 (fr4 r hr)
      clear e34 G2 G
      have hA := Pt.getD_row hgM
      have hBr := Pt.getD_row htM
      generalize hAe : M.getD gv.toNat [] = A at hA
      generalize hBe : M.getD tk.toNat [] = Bb at hBr
      have lA := go.rlen A (List.mem_of_getElem? hA)
      have lB := go.rlen Bb (List.mem_of_getElem? hBr)
      have bA := hb A (List.mem_of_getElem? hA)
      have bB := hb Bb (List.mem_of_getElem? hBr)
      obtain ⟨ra, hra⟩ : ∃ r, ts[gv.toNat]? = some r := ⟨_, List.getElem?_eq_getElem (by rw [hT4.len]; exact hgM)⟩
      obtain ⟨rb, hrb⟩ : ∃ r, ts[tk.toNat]? = some r := ⟨_, List.getElem?_eq_getElem (by rw [hT4.len]; exact htM)⟩
      have rdA : ∀ H9 (P : V → Hp → Prop), Ex H4 H9 → P (.ref ra) H9 → RK (rIxL K) (.ref T) (.int gv) H9 P := fun H9 P e9 hp => by
        have e : gv = (gv.toNat : Int) := by omega
        rw [e]
        exact r_ixL (sq_of (e9 _ _ hT4.lst)) (atI_nat (by rw [List.getElem?_map, hra]; rfl)) hp
      have rdB : ∀ H9 (P : V → Hp → Prop), Ex H4 H9 → P (.ref rb) H9 → RK (rIxL K) (.ref T) (.int tk) H9 P := fun H9 P e9 hp => by
        have e : tk = (tk.toNat : Int) := by omega
        rw [e]
        exact r_ixL (sq_of (e9 _ _ hT4.lst)) (atI_nat (by rw [List.getElem?_map, hrb]; rfl)) hp
      have sA : SqL K H4 ra (A.map V.int) := sq_of (hT4.row _ _ _ hra hA)
      have sB : SqL K H4 rb (Bb.map V.int) := sq_of (hT4.row _ _ _ hrb hBr)
      have bd1 : Bd 300 (o - am) := Bd.mono (bo.sub ba) (by decide)
      have bd2 : Bd 300 am := Bd.mono ba (by decide)
      have nT4 : T ≠ D := ne_of_none hT3.lst nD
      walk_at "s"; walk_at "ks"
      refine rdA _ _ (Ex.refl _) ?_
      walk_at "ks"
      refine rdB _ _ (Ex.refl _) ?_
      walk_at "ks"
      refine k_blended sA sB (by omega) (by omega) bA bB bd1 bd2 fun b1 nb1 => ?_
      have eb1 : Ex H4 (upd H4 b1 (.lst ((Pt.bl A Bb (o - am) am).map V.int))) := Ex.new nb1
      have e5 := e4.trans eb1
      have hD5 := hD.up eb1
      have b15 : (upd H4 b1 (.lst ((Pt.bl A Bb (o - am) am).map V.int))) b1 = some (.lst ((Pt.bl A Bb (o - am) am).map V.int)) := upd_same
      have nb10 : H b1 = none := fresh_back e4 nb1
      have hb1D : b1 ≠ D := (ne_of_none hD.lst nb1).symm
      have nb1T : T ≠ b1 := ne_of_none hT4.lst nb1
      generalize upd H4 b1 (.lst ((Pt.bl A Bb (o - am) am).map V.int)) = H5 at e5 hD5 b15 eb1
      walk_at "ks"
      refine ⟨D, qs.map V.ref, gv, gv.toNat, rfl, rfl, hD5.lst, ixN_at g0 (by rw [List.length_map]; omega), ?_⟩
      rw [show (qs.map V.ref).set gv.toNat (V.ref b1) = (qs.set gv.toNat b1).map V.ref from List.map_set.symm]
      have hD6 := hD5.set (k := gv.toNat) (by omega) b15 hb1D
      have e6 := Ex.mut (o := .lst ((qs.set gv.toNat b1).map V.ref)) e5 nD0
      have eT6 : ∀ x u, H4 x = some u → x ≠ D → (upd H5 D (.lst ((qs.set gv.toNat b1).map V.ref))) x = some u := fun x u hx hn => by
        rw [upd_ne hn]
        exact eb1 _ _ hx
      have fr6 : ∀ r ∈ qs.set gv.toNat b1, H r = none := fun r hr => by
        rcases List.mem_or_eq_of_mem_set hr with h | h
        · exact fr40 r h
        · rw [h]
          exact nb10
      generalize hq6 : qs.set gv.toNat b1 = qs6 at hD6 e6 eT6 fr6
      have hq6l : qs6.length = ns.length := by rw [← hq6, List.length_set]; exact hqs
      have T6 := eT6 _ _ hT4.lst nT4
      have raD : ra ≠ D := ne_of_none (hT3.row _ _ _ hra hA) nD
      have rbD : rb ≠ D := ne_of_none (hT3.row _ _ _ hrb hBr) nD
      have pD : p ≠ D := ne_of_none p3 nD
      have A6 := eT6 _ _ (hT4.row _ _ _ hra hA) raD
      have B6 := eT6 _ _ (hT4.row _ _ _ hrb hBr) rbD
      have p6 := eT6 _ _ p4 pD
      generalize upd H5 D (.lst (qs6.map V.ref)) = H6 at hD6 e6 T6 A6 B6 p6
      clear eT6
      walk_at "s"; walk_at "ks"
      refine r_ixL (v := .ref ra) (sq_of T6) ?_ ?_
      · rw [show gv = (gv.toNat : Int) by omega]
        exact atI_nat (by rw [List.getElem?_map, hra]; rfl)
      walk_at "ks"
      refine r_ixL (v := .ref rb) (sq_of T6) ?_ ?_
      · rw [show tk = (tk.toNat : Int) by omega]
        exact atI_nat (by rw [List.getElem?_map, hrb]; rfl)
      walk_at "ks"
      refine k_blended (sq_of A6) (sq_of B6) (by omega) (by omega) bA bB bd2 bd1 fun b2 nb2 => ?_
      have eb2 : Ex H6 (upd H6 b2 (.lst ((Pt.bl A Bb am (o - am)).map V.int))) := Ex.new nb2
      have e7 := e6.trans eb2
      have hD7 := hD6.up eb2
      have b27 : (upd H6 b2 (.lst ((Pt.bl A Bb am (o - am)).map V.int))) b2 = some (.lst ((Pt.bl A Bb am (o - am)).map V.int)) := upd_same
      have nb20 : H b2 = none := fresh_back e6 nb2
      have hb2D : b2 ≠ D := (ne_of_none hD6.lst nb2).symm
      have p7 := eb2 _ _ p6
      generalize upd H6 b2 (.lst ((Pt.bl A Bb am (o - am)).map V.int)) = H7 at e7 hD7 b27 p7
      walk_at "ks"
      refine ⟨D, qs6.map V.ref, tk, tk.toNat, rfl, rfl, hD7.lst, ixN_at t0 (by rw [List.length_map]; omega), ?_⟩
      rw [show (qs6.map V.ref).set tk.toNat (V.ref b2) = (qs6.set tk.toNat b2).map V.ref from List.map_set.symm]
      have hD8 := hD7.set (k := tk.toNat) (by omega) b27 hb2D
      have e8 := Ex.mut (o := .lst ((qs6.set tk.toNat b2).map V.ref)) e7 nD0
      have fr8 : ∀ r ∈ qs6.set tk.toNat b2, H r = none := fun r hr => by
        rcases List.mem_or_eq_of_mem_set hr with h | h
        · exact fr6 r h
        · rw [h]
          exact nb20
      have p8 : (upd H7 D (.lst ((qs6.set tk.toNat b2).map V.ref))) p = some (.lst ((Pg.done cur gv tk am).map V.int)) := by
        rw [upd_ne pD]
        exact p7
      generalize upd H7 D (.lst ((qs6.set tk.toNat b2).map V.ref)) = H8 at hD8 e8 p8
      have hmx : ((M.map (Pt.sc o)).set gv.toNat (Pt.bl A Bb (o - am) am)).set tk.toNat (Pt.bl A Bb am (o - am)) = Pt.mx M gv.toNat tk.toNat o am := by
        unfold Pt.mx
        rw [hAe, hBe]
      rw [hmx] at hD8
      walk_at "s"; walk_at "ks"
      walk_at "s"; walk_at "ks"
      walk_at "s"; walk_at "ks"
      refine fun H9 e9 => ⟨_, e9, D, p, _, some (.ref g), some (.ref p), some (.int gv), some (.int tk), some (.int am), some (.int o), some (.ref D), ?_, e8, ?_, fr8, ?_, ?_, U2⟩
      · rw [est, hstep]
        rfl
      · rw [est, hstep]
        exact hD8
      · rw [est, hstep]
        exact sq_of p8
      · exact hw2
    · rintro σ' H' ⟨T, c, ts, v5, v6, v7, v8, v9, v10, v11, rfl, e, hT, fr, hc, hw, U⟩
      rw [List.length_map, hG.len, List.take_length] at hT hw ⊢
      walk_at "s"; walk_at "ks"
      refine ⟨(by show 2 ≤ 100000; decide), fun p np => ?_⟩
      exact q _ hw p T ts _ (e.trans (Ex.new np)) upd_same (hT.up (Ex.new np)) fr
theorem ok_Lcolumn {C_PurseError C_NoGift : Addr} (T : TxtE K mg C_PurseError C_NoGift) {f : Addr} {fd : FuncData} (F : Fun K "_law_column" "_law_column" s_Lcolumn f fd) (B : Bl mg) : FnOk P w K mg base CX0 1 f fd ["_law_rows", "_law_gifts", "_law_at"] (spLcolumn K) := by
  refine F.ok sc_Lcolumn (fun vs H Q E h => ?_) (fun cdv A outer s H vs Q E hr h => ?_)
  · obtain ⟨R, G, j, rs, gs, Ls, Gs, ns, rfl, _⟩ := h
    rfl
  · obtain ⟨R, G, j, rs, gs, Ls, Gs, ns, rfl, L, hj, q⟩ := h
    refine ⟨_, (pss_cons (ps_set (i := 3) sc_Lcolumn.nd rfl (Or.inl rfl) (pe_op op_rep (pe_lst (pa_cons pe_int pa_nil)) (pe_callB (bLen (K := K)) (by rfl) B.len_ boot_len (pa_cons (pe_ix (ixl (K := K)) (pv 0) pe_int (fun _ _ => rfl)) pa_nil))))
      (pss_cons (ps_asg pe_int (pg_sub (pv 3) (pv 2) set_list))
      (pss_cons (ps_for PassesOwn.never rfl (pi_range1 (by rfl) B.range_ (pa_cons (pe_callB (bLen (K := K)) (by rfl) B.len_ boot_len (pa_cons (pv 1) pa_nil)) pa_nil)) (pg_name (i := 4) sc_Lcolumn.nd rfl (Or.inl rfl)) (pss_cons (ps_asg (pe_ix (ixl (K := K)) (pv 1) (pv 4) (fun _ _ => rfl)) (pgT (K := K) (n := 3) rfl (pgs_cons (pg_name (i := 5) sc_Lcolumn.nd rfl (Or.inl rfl)) (pgs_cons (pg_name (i := 6) sc_Lcolumn.nd rfl (Or.inl rfl)) (pgs_cons (pg_name (i := 7) sc_Lcolumn.nd rfl (Or.inl rfl)) pgs_nil)))))
      (pss_cons (ps_set (i := 8) sc_Lcolumn.nd rfl (Or.inr rfl) (pe_op op_sub (pe_ix (ixl (K := K)) (pe_ix (ixl (K := K)) (pv 0) (pv 4) (fun _ _ => rfl)) (pv 5) (fun _ _ => rfl)) (pe_ix (ixl (K := K)) (pe_ix (ixl (K := K)) (pv 0) (pv 4) (fun _ _ => rfl)) (pv 6) (fun _ _ => rfl))))
      (pss_cons (ps_setLc (i := 9) (own := [("_law_one", 10)]) (g := gName 10) (tt := tYes) rfl sc_Lcolumn.nd rfl rfl (sw_true rfl rfl rfl (by decide +kernel)) (piL (K := K) (pv 3)) (blkOk_by (own := [("_law_one", 10)]) (N := n_Lcolumn) (sc := defScope s_Lcolumn) (by decide +kernel)) (fun _ _ _ _ _ => pg_name (i := 10) sc_Lcolumn.nd rfl (Or.inl rfl)) (fun _ _ _ _ _ => pts_nil) (fun _ _ _ _ _ => (pe_op op_mulX (pv 8) (pv 10))))
      (pss_cons (ps_asg (pe_op op_add (pe_op op_mulX (pe_op op_sub (pv 8) (pv 7)) (pe_ix (ixl (K := K)) (pv 3) (pv 5) (fun _ _ => rfl))) (pe_op op_mulX (pv 7) (pe_ix (ixl (K := K)) (pv 3) (pv 6) (fun _ _ => rfl)))) (pg_sub (pv 9) (pv 5) set_list))
      (pss_cons (ps_asg (pe_op op_add (pe_op op_mulX (pv 7) (pe_ix (ixl (K := K)) (pv 3) (pv 5) (fun _ _ => rfl))) (pe_op op_mulX (pe_op op_sub (pv 8) (pv 7)) (pe_ix (ixl (K := K)) (pv 3) (pv 6) (fun _ _ => rfl)))) (pg_sub (pv 9) (pv 6) set_list))
      (pss_one (ps_set (i := 3) sc_Lcolumn.nd rfl (Or.inl rfl) (pv 9)))))))))
      (pss_one (ps_ret (pv 3)))))), Go.here ?_⟩
    have nl := L.nl
    walk_at "s"; walk_at "ks"
    refine ⟨(by show 1 ≤ 100000; decide), fun o no => ?_⟩
    have e1 : Ex H (upd H o (.lst [V.int 0])) := Ex.new no
    have o1 : (upd H o (.lst [V.int 0])) o = some (.lst [V.int 0]) := upd_same
    generalize upd H o (.lst [V.int 0]) = H1 at e1 o1
    walk_at "ks"
    refine (L.up e1).row (i := 0) (Nat.zero_le _) fun r hr => ?_
    walk_at "ks"
    refine c_len hr ?_
    have hlen0 : ((Pt.st ns (Gs.take 0)).cur.map V.int).length = ns.length := by rw [List.length_map]; rfl
    rw [hlen0]
    refine r_rep o1 (by show 1 * _ ≤ _; omega) (by omega) fun h nh => ?_
    rw [rep_int]
    have nh0 : H h = none := fresh_back e1 nh
    have e2 := e1.trans (Ex.new (o := .lst ((List.replicate ns.length (0 : Int)).map V.int)) nh)
    have h2 : (upd H1 h (.lst ((List.replicate ns.length (0 : Int)).map V.int))) h = some (.lst ((List.replicate ns.length (0 : Int)).map V.int)) := upd_same
    generalize upd H1 h (.lst ((List.replicate ns.length (0 : Int)).map V.int)) = H2 at e2 h2
    walk_at "s"; walk_at "ks"
    refine ⟨h, _, (j : Int), j, rfl, rfl, h2, ?_, ?_⟩
    · have e := ixN_at (n := ((List.replicate ns.length (0 : Int)).map V.int).length) (k := (j : Int)) (by omega) (by rw [List.length_map, List.length_replicate]; omega)
      rw [Int.toNat_natCast] at e
      exact e
    rw [map_set_int, ← Pt.col_ident hj]
    have e3 := Ex.mut (o := .lst ((Pt.colOf (Pt.ident ns.length) j).map V.int)) e2 nh0
    have h3 : (upd H2 h (.lst ((Pt.colOf (Pt.ident ns.length) j).map V.int))) h = some (.lst ((Pt.colOf (Pt.ident ns.length) j).map V.int)) := upd_same
    generalize upd H2 h (.lst ((Pt.colOf (Pt.ident ns.length) j).map V.int)) = H3 at e3 h3
    refine gs_forR (n := (Gs.length : Int)) (fun i σ' H' => ∃ (h : Addr) (v4 v5 v6 v7 v8 v9 : Option V), σ' = [some (.ref R), some (.ref G), some (.int (j : Int)), some (.ref h), v4, v5, v6, v7, v8, v9, none] ∧ Ex H H' ∧ SqL K H' h ((Pt.colOf (Pt.st ns (Gs.take i)).M j).map V.int)) ?_ ?_ ?_
    · walk_at "ks"
      refine c_len (L.up e3).gf.lst ?_
      rw [List.length_map, L.gf.len]
      have := L.gl
      walk_at "ks"
      exact ⟨rfl, by omega, by omega, h, none, none, none, none, none, none, rfl, e3, sq_of h3⟩
    · rintro i σ' H' hi ⟨h, v4, v5, v6, v7, v8, v9, rfl, e, hh⟩
      have hi' : i < Gs.length := by omega
      obtain ⟨⟨gv, tk, am⟩, hz⟩ : ∃ z, Gs[i]? = some z := ⟨_, List.getElem?_eq_getElem hi'⟩
      have f := L.fits hz
      have U := L.upto (i := i) (by omega)
      have est : Pt.st ns (Gs.take (i + 1)) = Pt.step (Pt.st ns (Gs.take i)) (gv, tk, am) := by rw [Pm.take_more hz, Pt.st_snoc]
      have rowi : ∀ (P : V → Hp → Prop), (∀ r, SqL K H' r ((Pt.st ns (Gs.take i)).cur.map V.int) → P (.ref r) H') → RK (rIxL K) (.ref R) (.int (i : Int)) H' P := fun P hp => (L.up e).row (by omega) hp
      have hb := U.entry (by have := L.gl; omega)
      have go := U.good
      have bcur := U.bc
      refine gs_asgG ?_
      walk_at "ks"
      refine (L.up e).gift hz fun g hg => ?_
      refine gk_tup3 (x := .int gv) (y := .int tk) (z := .int am) hg (gk_name (gk_name (gk_name ?_)))
      generalize Pt.st ns (Gs.take i) = S at f hh rowi hb go bcur est
      obtain ⟨cur, M, sc⟩ := S
      dsimp only at f hh hb bcur rowi
      have g0 := f.g0
      have gn := f.gn
      have t0 := f.t0
      have tn := f.tn
      have hML : M.length = ns.length := go.len
      have hcl : cur.length = ns.length := go.curlen
      have hgM : gv.toNat < M.length := by omega
      have htM : tk.toNat < M.length := by omega
      walk_at "s"; walk_at "ks"
      refine rowi _ fun r hr => ?_
      walk_at "ks"
      refine r_ixL hr (at_getD g0 gn) ?_
      walk_at "ks"
      refine rowi _ fun r hr => ?_
      walk_at "ks"
      refine r_ixL hr (at_getD t0 tn) ?_
      walk_at "ks"
      have ho : cur.getD gv.toNat 0 - cur.getD tk.toNat 0 = Pt.ov cur (gv, tk, am) := rfl
      rw [ho]
      have bo := bd_ov bcur (gv, tk, am)
      have ba : Bd 211 am := by
        have h1 := f.d1
        have h2 : am ≤ Pt.ov cur (gv, tk, am) := f.more
        unfold Bd at bo ⊢
        omega
      have hstep : (Pt.step ⟨cur, M, sc⟩ (gv, tk, am)).M = Pt.mx M gv.toNat tk.toNat (Pt.ov cur (gv, tk, am)) am := rfl
      generalize Pt.ov cur (gv, tk, am) = o at bo hstep ⊢
      have hcm := Pt.col_mx (o := o) (d := am) (fun r hr => go.rlen r hr) hgM htM j
      have lC : (Pt.colOf M j).length = M.length := by unfold Pt.colOf; rw [List.length_map]
      have bC : AllBd 30000 (Pt.colOf M j) := fun x hx => by
        obtain ⟨r, hr, rfl⟩ := List.mem_map.mp hx
        exact (hb r hr).get j
      generalize Pt.colOf M j = C at hh hcm lC bC
      walk_at "s"
      refine k_lcI (a := h) (ns := C) (fun x => o * x) ?_
      walk_at "ks"
      refine ⟨rfl, hh, by omega, fun _ => rfl, fun y Hz hy ez => ?_, fun b nb => ?_⟩
      · have by_ := bC y hy
        walk_at "ks"
        exact ⟨rfl, rfl⟩
      have nb0 : H b = none := fresh_back e nb
      have e4 := e.trans (Ex.new (o := .lst ((C.map fun x => o * x).map V.int)) nb)
      have hh4 := ex_l (Ex.new (o := .lst ((C.map fun x => o * x).map V.int)) nb) hh
      have b4 : (upd H' b (.lst ((C.map fun x => o * x).map V.int))) b = some (.lst ((C.map fun x => o * x).map V.int)) := upd_same
      have hkeep : ∀ o2, SqL K (upd H' b o2) h (C.map V.int) := fun o2 => ex_l (Ex.new nb) hh
      have bg := bC.get gv.toNat
      have bt := bC.get tk.toNat
      walk_at "s"; walk_at "ks"
      refine r_ixL hh4 (at_getD g0 (by omega)) ?_
      walk_at "ks"
      refine r_ixL hh4 (at_getD t0 (by omega)) ?_
      walk_at "ks"
      refine ⟨b, _, gv, gv.toNat, rfl, rfl, b4, ixN_at g0 (by rw [List.length_map, List.length_map]; omega), ?_⟩
      rw [upd_upd, map_set_int]
      walk_at "s"; walk_at "ks"
      refine r_ixL (hkeep _) (at_getD g0 (by omega)) ?_
      walk_at "ks"
      refine r_ixL (hkeep _) (at_getD t0 (by omega)) ?_
      walk_at "ks"
      refine ⟨b, _, tk, tk.toNat, rfl, rfl, upd_same, ixN_at t0 (by rw [List.length_map, List.length_set, List.length_map]; omega), ?_⟩
      rw [upd_upd, map_set_int]
      walk_at "s"; walk_at "ks"
      refine fun H5 e5 => ⟨_, e5, b, _, _, _, _, _, _, rfl, e.trans (Ex.new nb), ?_⟩
      rw [est, hstep, hcm]
      exact sq_of upd_same
    · rintro σ' H' ⟨h, v4, v5, v6, v7, v8, v9, rfl, e, hh⟩
      rw [Int.toNat_natCast, List.take_length] at hh
      walk_at "s"; walk_at "ks"
      exact q h H' e hh
theorem ok_Lscale {C_PurseError C_NoGift : Addr} (T : TxtE K mg C_PurseError C_NoGift) {f : Addr} {fd : FuncData} (F : Fun K "_law_scale" "_law_scale" s_Lscale f fd) (B : Bl mg) : FnOk P w K mg base CX0 1 f fd ["_law_rows", "_law_gifts"] (spLscale K) := by
  refine F.ok sc_Lscale (fun vs H Q E h => ?_) (fun cdv A outer s H vs Q E hr h => ?_)
  · obtain ⟨R, G, rs, gs, Ls, Gs, ns, rfl, _⟩ := h
    rfl
  · obtain ⟨R, G, rs, gs, Ls, Gs, ns, rfl, L, q⟩ := h
    refine ⟨_, (pss_cons (ps_set (i := 2) sc_Lscale.nd rfl (Or.inl rfl) pe_int)
      (pss_cons (ps_for PassesOwn.never rfl (pi_range1 (by rfl) B.range_ (pa_cons (pe_callB (bLen (K := K)) (by rfl) B.len_ boot_len (pa_cons (pv 1) pa_nil)) pa_nil)) (pg_name (i := 3) sc_Lscale.nd rfl (Or.inl rfl)) (pss_cons (ps_asg (pe_ix (ixl (K := K)) (pv 1) (pv 3) (fun _ _ => rfl)) (pgT (K := K) (n := 3) rfl (pgs_cons (pg_name (i := 4) sc_Lscale.nd rfl (Or.inl rfl)) (pgs_cons (pg_name (i := 5) sc_Lscale.nd rfl (Or.inl rfl)) (pgs_cons (pg_name (i := 6) sc_Lscale.nd rfl (Or.inl rfl)) pgs_nil)))))
      (pss_one (ps_set (i := 2) sc_Lscale.nd rfl (Or.inl rfl) (pe_op op_mulX (pv 2) (pe_op op_sub (pe_ix (ixl (K := K)) (pe_ix (ixl (K := K)) (pv 0) (pv 3) (fun _ _ => rfl)) (pv 4) (fun _ _ => rfl)) (pe_ix (ixl (K := K)) (pe_ix (ixl (K := K)) (pv 0) (pv 3) (fun _ _ => rfl)) (pv 5) (fun _ _ => rfl))))))))
      (pss_one (ps_ret (pv 2))))), Go.here ?_⟩
    have hgl := L.gl
    walk_at "s"; walk_at "ks"
    refine gs_forR (n := (Gs.length : Int)) (fun i σ' H' => ∃ (v3 v4 v5 v6 : Option V), σ' = [some (.ref R), some (.ref G), some (.int (Pt.st ns (Gs.take i)).s), v3, v4, v5, v6] ∧ H = H') ?_ ?_ ?_
    · walk_at "ks"
      refine c_len L.gf.lst ?_
      rw [List.length_map, L.gf.len]
      walk_at "ks"
      exact ⟨rfl, by omega, by omega, none, none, none, none, rfl, rfl⟩
    · rintro i σ' H' hi ⟨v3, v4, v5, v6, rfl, rfl⟩
      have hi' : i < Gs.length := by omega
      obtain ⟨⟨gv, tk, am⟩, hz⟩ : ∃ z, Gs[i]? = some z := ⟨_, List.getElem?_eq_getElem hi'⟩
      have f := L.fits hz
      have U := L.upto (i := i) (by omega)
      have est : Pt.st ns (Gs.take (i + 1)) = Pt.step (Pt.st ns (Gs.take i)) (gv, tk, am) := by rw [Pm.take_more hz, Pt.st_snoc]
      have rowi : ∀ (P : V → Hp → Prop), (∀ r, SqL K H r ((Pt.st ns (Gs.take i)).cur.map V.int) → P (.ref r) H) → RK (rIxL K) (.ref R) (.int (i : Int)) H P := fun P hp => L.row (by omega) hp
      have bcur := U.bc
      have bs : Bd 30000 (Pt.st ns (Gs.take i)).s := Bd.mono U.bs (by omega)
      refine gs_asgG ?_
      walk_at "ks"
      refine L.gift hz fun g hg => ?_
      refine gk_tup3 (x := .int gv) (y := .int tk) (z := .int am) hg (gk_name (gk_name (gk_name ?_)))
      generalize Pt.st ns (Gs.take i) = S at f rowi bcur est bs ⊢
      walk_at "s"; walk_at "ks"
      refine rowi _ fun r hr => ?_
      walk_at "ks"
      refine r_ixL hr (at_getD f.g0 f.gn) ?_
      walk_at "ks"
      refine rowi _ fun r hr => ?_
      walk_at "ks"
      refine r_ixL hr (at_getD f.t0 f.tn) ?_
      walk_at "ks"
      have bo := bd_ov bcur (gv, tk, am)
      have ho : S.cur.getD gv.toNat 0 - S.cur.getD tk.toNat 0 = Pt.ov S.cur (gv, tk, am) := rfl
      rw [ho]
      walk_at "ks"
      refine fun H5 e5 => ⟨_, e5, some (.int (i : Int)), some (.int gv), some (.int tk), some (.int am), ?_, rfl⟩
      rw [est]
      rfl
    · rintro σ' H' ⟨v3, v4, v5, v6, rfl, rfl⟩
      rw [Int.toNat_natCast, List.take_length]
      walk_at "s"; walk_at "ks"
      exact q
theorem ok_Ladds_up {C_PurseError C_NoGift : Addr} (T : TxtE K mg C_PurseError C_NoGift) {f : Addr} {fd : FuncData} (F : Fun K "_law_adds_up" "_law_adds_up" s_Ladds_up f fd) (B : Bl mg) {f_Lwholes : Addr} {fd_Lwholes : FuncData} (c_Lwholes : Cl P w K mg base CX0 1 "_law_wholes" f_Lwholes fd_Lwholes ["_law_found", "_law_many"] (spLwholes K)) : FnOk P w K mg base CX0 2 f fd ["_law_table", "_law_scale_here", "_law_first", "_law_last"] (spLadds_up K) := by
  refine F.ok sc_Ladds_up (fun vs H Q E h => ?_) (fun cdv A outer s H vs Q E hr h => ?_)
  · obtain ⟨T, f, l, rs, ns, S, rfl, _⟩ := h
    rfl
  · obtain ⟨T, f, l, rs, ns, ⟨cur, M, sc⟩, rfl, hT, hF, hL, go, hn, bsc, bM, bns, bcur, q⟩ := h
    dsimp only at hT hL bsc bM bcur
    have hML : M.length = ns.length := go.len
    have hcl : cur.length = ns.length := go.curlen
    have hrl : rs.length = ns.length := by rw [hT.len]; exact hML
    refine ⟨_, (pss_cons (ps_if (PW.pt (pw_or (pt_not (pt_val (pe_callB (bIsi (K := K)) (by rfl) B.isinstance_ boot_isinstance (pa_cons (pv 0) (pa_cons (pe_bltn (v := .ty "list") (by rfl) B.list_ boot_list rfl) pa_nil))))) (pw_or1 (pt_cmpR op_ne (pe_callB (bLen (K := K)) (by rfl) B.len_ boot_len (pa_cons (pv 0) pa_nil)) (pe_callB (bLen (K := K)) (by rfl) B.len_ boot_len (pa_cons (pv 2) pa_nil)) (nomark _))))) (pss_one (ps_ret pe_bl)) pss_nil)
      (pss_cons (ps_set (i := 4) sc_Ladds_up.nd rfl (Or.inl rfl) (pe_op op_rep (pe_lst (pa_cons pe_int pa_nil)) (pe_callB (bLen (K := K)) (by rfl) B.len_ boot_len (pa_cons (pv 2) pa_nil))))
      (pss_cons (ps_for PassesOwn.never rfl (pi_range1 (by rfl) B.range_ (pa_cons (pe_callB (bLen (K := K)) (by rfl) B.len_ boot_len (pa_cons (pv 2) pa_nil)) pa_nil)) (pg_name (i := 5) sc_Ladds_up.nd rfl (Or.inl rfl)) (pss_cons (ps_if (pt_not (pt_val (pe_call c_Lwholes.ok (hr.mono (by decide)) (by rfl) c_Lwholes.gl c_Lwholes.kp c_Lwholes.bd .nil pass0 (pa_cons (pe_ix (ixl (K := K)) (pv 0) (pv 5) (fun _ _ => rfl)) (pa_cons (pe_callB (bLen (K := K)) (by rfl) B.len_ boot_len (pa_cons (pv 2) pa_nil)) pa_nil))))) (pss_one (ps_ret pe_bl)) pss_nil)
      (pss_cons (ps_if (PW.pt (pw_or (pt_cmpR op_lt (pe_callB (bMin (K := K) rfl) (by rfl) B.min_ boot_min (pa_cons (pe_ix (ixl (K := K)) (pv 0) (pv 5) (fun _ _ => rfl)) pa_nil)) pe_int (nomark _)) (pw_or1 (pt_cmpR op_ne (pe_callB (bSum (K := K) rfl) (by rfl) B.sum_ boot_sum (pa_cons (pe_ix (ixl (K := K)) (pv 0) (pv 5) (fun _ _ => rfl)) pa_nil)) (pv 1) (nomark _))))) (pss_one (ps_ret pe_bl)) pss_nil)
      (pss_cons (ps_set (i := 6) sc_Ladds_up.nd rfl (Or.inl rfl) pe_int)
      (pss_cons (ps_for PassesOwn.never rfl (pi_range1 (by rfl) B.range_ (pa_cons (pe_callB (bLen (K := K)) (by rfl) B.len_ boot_len (pa_cons (pv 2) pa_nil)) pa_nil)) (pg_name (i := 7) sc_Ladds_up.nd rfl (Or.inl rfl)) (pss_cons (ps_asg (pe_op op_add (pe_ix (ixl (K := K)) (pv 4) (pv 7) (fun _ _ => rfl)) (pe_ix (ixl (K := K)) (pe_ix (ixl (K := K)) (pv 0) (pv 5) (fun _ _ => rfl)) (pv 7) (fun _ _ => rfl))) (pg_sub (pv 4) (pv 7) set_list))
      (pss_one (ps_set (i := 6) sc_Ladds_up.nd rfl (Or.inl rfl) (pe_op op_add (pv 6) (pe_op op_mulX (pe_ix (ixl (K := K)) (pe_ix (ixl (K := K)) (pv 0) (pv 5) (fun _ _ => rfl)) (pv 7) (fun _ _ => rfl)) (pe_ix (ixl (K := K)) (pv 2) (pv 7) (fun _ _ => rfl))))))))
      (pss_one (ps_if (pt_cmpR op_ne (pv 6) (pe_op op_mulX (pv 1) (pe_ix (ixl (K := K)) (pv 3) (pv 5) (fun _ _ => rfl))) (nomark _)) (pss_one (ps_ret pe_bl)) pss_nil)))))))
      (pss_one (ps_ret (pe_cmpR (oEqD (K := K) hr.units) (pv 4) (pe_op op_rep (pe_lst (pa_cons (pv 1) pa_nil)) (pe_callB (bLen (K := K)) (by rfl) B.len_ boot_len (pa_cons (pv 2) pa_nil))) (nomark _))))))), Go.here ?_⟩
    walk_at "s"; walk_at "ks"
    refine c_list_list hT.lst ?_
    walk_at "ks"
    refine ⟨fun hb => Bool.noConfusion hb, fun _ => ?_⟩
    walk_at "ks"
    refine c_len (sq_of hT.lst) ?_
    walk_at "ks"
    refine c_len hF ?_
    rw [List.length_map, List.length_map, hrl]
    walk_at "ks"
    rw [decide_eq_true rfl]
    refine ⟨fun hb => Bool.noConfusion hb, fun _ => ?_⟩
    walk_at "s"; walk_at "ks"
    refine ⟨(by show 1 ≤ 100000; decide), fun o no => ?_⟩
    have e1 : Ex H (upd H o (.lst [V.int 0])) := Ex.new no
    have o1 : (upd H o (.lst [V.int 0])) o = some (.lst [V.int 0]) := upd_same
    generalize upd H o (.lst [V.int 0]) = H1 at e1 o1
    walk_at "ks"
    refine c_len (ex_l e1 hF) ?_
    rw [List.length_map]
    refine r_rep o1 (by show 1 * _ ≤ _; omega) (by omega) fun c nc => ?_
    rw [rep_int]
    have nc0 : H c = none := fresh_back e1 nc
    have e2 := e1.trans (Ex.new (o := .lst ((List.replicate ns.length (0 : Int)).map V.int)) nc)
    have c2 : (upd H1 c (.lst ((List.replicate ns.length (0 : Int)).map V.int))) c = some (.lst ((List.replicate ns.length (0 : Int)).map V.int)) := upd_same
    generalize upd H1 c (.lst ((List.replicate ns.length (0 : Int)).map V.int)) = H2 at e2 c2
    refine gs_forR (n := (ns.length : Int)) (fun i σ' H' => ∃ (v5 v6 v7 : Option V) (cs : List Int), σ' = [some (.ref T), some (.int sc), some (.ref f), some (.ref l), some (.ref c), v5, v6, v7] ∧ Ex H H' ∧ H' c = some (.lst (cs.map V.int)) ∧ cs.length = ns.length ∧ ∀ j, j < ns.length → cs.getD j 0 = ((M.take i).map fun r => r.getD j 0).sum) ?_ ?_ ?_
    · walk_at "ks"
      refine c_len (ex_l e2 hF) ?_
      rw [List.length_map]
      walk_at "ks"
      refine ⟨rfl, by omega, by omega, none, none, none, _, rfl, e2, c2, List.length_replicate, fun j hj => ?_⟩
      rw [List.getD_eq_getElem?_getD, List.getElem?_replicate, if_pos hj]
      rfl
    · rintro i σ' H' hi ⟨v5, v6, v7, cs, rfl, e, hc, hcsl, hcs⟩
      have hi' : i < M.length := by omega
      obtain ⟨r, hr⟩ : ∃ r, M[i]? = some r := ⟨_, List.getElem?_eq_getElem hi'⟩
      obtain ⟨x, hx⟩ : ∃ r, rs[i]? = some r := ⟨_, List.getElem?_eq_getElem (by omega)⟩
      have mr := List.mem_of_getElem? hr
      have lr : r.length = ns.length := go.rlen r mr
      have br := bM r mr
      have hxr : ∀ H9, Ex H H9 → H9 x = some (.lst (r.map V.int)) := fun H9 e9 => (hT.up e9).row i x r hx hr
      have rdT : ∀ H9 (P : V → Hp → Prop), Ex H H9 → P (.ref x) H9 → RK (rIxL K) (.ref T) (.int (i : Int)) H9 P := fun H9 P e9 hp => r_ixL (sq_of (e9 _ _ hT.lst)) (atI_nat (by rw [List.getElem?_map, hx]; rfl)) hp
      walk_at "s"; walk_at "ks"
      refine rdT _ _ e ?_
      walk_at "ks"
      refine c_len (ex_l e hF) ?_
      rw [List.length_map]
      walk_at "ks"
      refine k_Lwholes (by rw [lr]) (hxr _ e) ?_
      walk_at "ks"
      refine ⟨fun hb => Bool.noConfusion hb, fun _ => ?_⟩
      walk_at "s"; walk_at "ks"
      refine rdT _ _ e ?_
      walk_at "ks"
      refine c_min (sq_of (hxr _ e)) (by omega) fun m hm _ => ?_
      have hm0 : 0 ≤ m := go.nn r mr m hm
      walk_at "ks"
      rw [decide_eq_false (by omega)]
      refine ⟨fun hb => Bool.noConfusion hb, fun _ => ?_⟩
      walk_at "ks"
      refine rdT _ _ e ?_
      walk_at "ks"
      refine c_sum (sq_of (hxr _ e)) ?_
      walk_at "ks"
      rw [show r.sum = sc from go.sum r mr, decide_eq_true rfl]
      refine ⟨fun hb => Bool.noConfusion hb, fun _ => ?_⟩
      walk_at "s"; walk_at "ks"
      refine gs_forR (n := (ns.length : Int)) (fun j σ' H' => ∃ (v7 : Option V) (cs : List Int), σ' = [some (.ref T), some (.int sc), some (.ref f), some (.ref l), some (.ref c), some (.int (i : Int)), some (.int ((List.zipWith (fun x y => x * y) r ns).take j).sum), v7] ∧ Ex H H' ∧ H' c = some (.lst (cs.map V.int)) ∧ cs.length = ns.length ∧ ∀ k, k < ns.length → cs.getD k 0 = if k < j then ((M.take (i + 1)).map fun r => r.getD k 0).sum else ((M.take i).map fun r => r.getD k 0).sum) ?_ ?_ ?_
      · walk_at "ks"
        refine c_len (ex_l e hF) ?_
        rw [List.length_map]
        walk_at "ks"
        refine ⟨rfl, by omega, by omega, _, cs, rfl, e, hc, hcsl, fun k hk => ?_⟩
        rw [if_neg (by omega)]
        exact hcs k hk
      · clear hc hcsl hcs
        clear cs
        rintro j σ' H'' hj ⟨v7, cs, rfl, e, hc, hcsl, hcs⟩
        have hj' : j < ns.length := by omega
        walk_at "s"; walk_at "ks"
        refine r_ixL (sq_of hc) (at_getD (by omega) (by omega)) ?_
        walk_at "ks"
        refine rdT _ _ e ?_
        walk_at "ks"
        refine r_ixL (sq_of (hxr _ e)) (at_getD (by omega) (by omega)) ?_
        walk_at "ks"
        rw [Int.toNat_natCast]
        refine ⟨c, _, (j : Int), j, rfl, rfl, hc, ?_, ?_⟩
        · have e := ixN_at (n := (cs.map V.int).length) (k := (j : Int)) (by omega) (by rw [List.length_map]; omega)
          rw [Int.toNat_natCast] at e
          exact e
        rw [map_set_int]
        have e3 := Ex.mut (o := .lst ((cs.set j (cs.getD j 0 + r.getD j 0)).map V.int)) e nc0
        have c3 : (upd H'' c (.lst ((cs.set j (cs.getD j 0 + r.getD j 0)).map V.int))) c = some (.lst ((cs.set j (cs.getD j 0 + r.getD j 0)).map V.int)) := upd_same
        generalize upd H'' c (.lst ((cs.set j (cs.getD j 0 + r.getD j 0)).map V.int)) = H3 at e3 c3
        have b1 := br.get j
        have b2 := bns.get j
        walk_at "s"; walk_at "ks"
        refine rdT _ _ e3 ?_
        walk_at "ks"
        refine r_ixL (sq_of (hxr _ e3)) (at_getD (by omega) (by omega)) ?_
        walk_at "ks"
        refine r_ixL (ex_l e3 hF) (at_getD (by omega) (by omega)) ?_
        rw [Int.toNat_natCast]
        walk_at "ks"
        refine fun H4 e4 => ⟨_, e4, some (.int (j : Int)), _, ?_, e3, c3, by rw [List.length_set]; exact hcsl, fun k hk => ?_⟩
        · have hzz : (List.zipWith (fun x y => x * y) r ns)[j]? = some (r.getD j 0 * ns.getD j 0) := by
            rw [List.getElem?_zipWith, Pm.getD_at (show j < r.length by omega), Pm.getD_at hj']
          rw [Pm.sum_take hzz]
          rfl
        · have hk2 := hcs k hk
          by_cases ck : k = j
          · subst ck
            rw [if_neg (by omega)] at hk2
            rw [List.getD_eq_getElem?_getD, List.getElem?_set_self (by omega), if_pos (by omega), Pm.take_more hr, List.map_append, List.sum_append, ← hk2]
            simp
          · rw [Pg.getD_set_ne (Ne.symm ck), hk2]
            by_cases cj : k < j
            · rw [if_pos cj, if_pos (by omega)]
            · rw [if_neg cj, if_neg (by omega)]
      · clear hc hcsl hcs
        clear cs
        rintro σ' H'' ⟨v7, cs, rfl, e, hc, hcsl, hcs⟩
        rw [Int.toNat_natCast, List.take_of_length_le (by rw [List.length_zipWith]; omega)]
        have b1 := bcur.get i
        walk_at "s"; walk_at "ks"
        refine r_ixL (ex_l e hL) (at_getD (by omega) (by omega)) ?_
        rw [Int.toNat_natCast]
        walk_at "ks"
        rw [show (List.zipWith (fun x y => x * y) r ns).sum = sc * cur.getD i 0 from go.held i r hr, decide_eq_true rfl]
        refine ⟨fun hb => Bool.noConfusion hb, fun _ => ?_⟩
        refine g1_next fun H4 e4 => ⟨_, e4, _, _, _, cs, rfl, e, hc, hcsl, fun k hk => ?_⟩
        have h1 := hcs k hk
        rw [Int.toNat_natCast, if_pos hk] at h1
        exact h1
    · rintro σ' H' ⟨v5, v6, v7, cs, rfl, e, hc, hcsl, hcs⟩
      rw [Int.toNat_natCast, ← hML, List.take_length] at hcs
      have hrep : cs = List.replicate ns.length sc := by
        apply List.ext_getElem?
        intro k
        by_cases hk : k < ns.length
        · rw [Pm.getD_at (show k < cs.length by omega), hcs k (by omega), List.getElem?_replicate, if_pos hk]
          exact congrArg some (go.col k hk)
        · rw [List.getElem?_eq_none (by omega), List.getElem?_eq_none (by rw [List.length_replicate]; omega)]
      walk_at "s"; walk_at "ks"
      refine ⟨(by show 1 ≤ 100000; decide), fun o no => ?_⟩
      have e3 := e.trans (Ex.new (o := .lst [V.int sc]) no)
      have c3 := at_up (o := .lst [V.int sc]) hc no
      have o3 : (upd H' o (.lst [V.int sc])) o = some (.lst [V.int sc]) := upd_same
      generalize upd H' o (.lst [V.int sc]) = H3 at e3 c3 o3
      walk_at "ks"
      refine c_len (ex_l e3 hF) ?_
      rw [List.length_map]
      refine r_rep o3 (by show 1 * _ ≤ _; omega) (by omega) fun d nd => ?_
      rw [rep_int, ← hrep]
      exact r_eqI2 (sq_of (at_up c3 nd)) (sq_of upd_same) (q.up (e3.trans (Ex.new nd)))
theorem ok_Lright {C_PurseError C_NoGift : Addr} (T : TxtE K mg C_PurseError C_NoGift) {f : Addr} {fd : FuncData} (F : Fun K "_law_right" "_law_right" s_Lright f fd) (B : Bl mg) {f_Ladds_up : Addr} {fd_Ladds_up : FuncData} (c_Ladds_up : Cl P w K mg base CX0 2 "_law_adds_up" f_Ladds_up fd_Ladds_up ["_law_table", "_law_scale_here", "_law_first", "_law_last"] (spLadds_up K)) {f_Lcolumn : Addr} {fd_Lcolumn : FuncData} (c_Lcolumn : Cl P w K mg base CX0 1 "_law_column" f_Lcolumn fd_Lcolumn ["_law_rows", "_law_gifts", "_law_at"] (spLcolumn K)) {f_Lscale : Addr} {fd_Lscale : FuncData} (c_Lscale : Cl P w K mg base CX0 1 "_law_scale" f_Lscale fd_Lscale ["_law_rows", "_law_gifts"] (spLscale K)) {f_Lwholes : Addr} {fd_Lwholes : FuncData} (c_Lwholes : Cl P w K mg base CX0 1 "_law_wholes" f_Lwholes fd_Lwholes ["_law_found", "_law_many"] (spLwholes K)) : FnOk P w K mg base CX0 3 f fd ["_law_found", "_law_rows", "_law_gifts", "_law_columns"] (spLright K) := by
  refine F.ok sc_Lright (fun vs H Q E h => ?_) (fun cdv A outer s H vs Q E hr h => ?_)
  · obtain ⟨p, T, R, G, c, ts, rs, gs, Ls, Gs, ns, cs, rfl, _⟩ := h
    rfl
  · obtain ⟨p, T, R, G, c, ts, rs, gs, Ls, Gs, ns, cs, rfl, hp, hT, L, hc, hcs, q⟩ := h
    have U : Upto ns Gs Gs.length := L.upto (Nat.le_refl _)
    have hgl := L.gl
    have go := U.good
    have bs := U.bs
    have bc := U.bc
    have hent := U.entry hgl
    rw [List.take_length] at go bs bc hent
    have hnl := L.nl
    refine ⟨_, (pss_cons (ps_if (PW.pt (pw_or (pt_not (pt_val (pe_callB (bIsi (K := K)) (by rfl) B.isinstance_ boot_isinstance (pa_cons (pv 0) (pa_cons (pe_bltn (v := .ty "tuple") (by rfl) B.tuple_ boot_tuple rfl) pa_nil))))) (pw_or (pt_cmpR op_ne (pe_callB (bLen (K := K)) (by rfl) B.len_ boot_len (pa_cons (pv 0) pa_nil)) pe_int (nomark _)) (pw_or1 (pt_not (pt_val (pe_call c_Lwholes.ok (hr.mono (by decide)) (by rfl) c_Lwholes.gl c_Lwholes.kp c_Lwholes.bd .nil pass0 (pa_cons (pe_lst (pa_cons (pe_ix (ixt (K := K)) (pv 0) pe_int (fun _ _ => rfl)) pa_nil)) (pa_cons pe_int pa_nil))))))))) (pss_one (ps_ret pe_bl)) pss_nil)
      (pss_cons (ps_if (pt_cmpR op_ne (pe_ix (ixt (K := K)) (pv 0) pe_int (fun _ _ => rfl)) (pe_call c_Lscale.ok (hr.mono (by decide)) (by rfl) c_Lscale.gl c_Lscale.kp c_Lscale.bd .nil pass0 (pa_cons (pv 1) (pa_cons (pv 2) pa_nil))) (nomark _)) (pss_one (ps_ret pe_bl)) pss_nil)
      (pss_cons (ps_if (pt_not (pt_val (pe_call c_Ladds_up.ok (hr.mono (by decide)) (by rfl) c_Ladds_up.gl c_Ladds_up.kp c_Ladds_up.bd .nil pass0 (pa_cons (pe_ix (ixt (K := K)) (pv 0) pe_int (fun _ _ => rfl)) (pa_cons (pe_ix (ixt (K := K)) (pv 0) pe_int (fun _ _ => rfl)) (pa_cons (pe_ix (ixl (K := K)) (pv 1) pe_int (fun _ _ => rfl)) (pa_cons (pe_ix (ixl (K := K)) (pv 1) (pe_un un_neg pe_int) (fun _ _ => rfl)) pa_nil))))))) (pss_one (ps_ret pe_bl)) pss_nil)
      (pss_cons (ps_for PassesOwn.never rfl (piL (K := K) (pv 3)) (pg_name (i := 4) sc_Lright.nd rfl (Or.inr rfl)) (pss_one (ps_if (pt_cmpR (oNeD (K := K) hr.units) (pe_lc (own := [("_law_one", 5)]) (g := gName 5) (tt := tYes) rfl sc_Lright.nd (piL (K := K) (pe_ix (ixt (K := K)) (pv 0) pe_int (fun _ _ => rfl))) (blkOk_by (own := [("_law_one", 5)]) (N := n_Lright) (sc := defScope s_Lright) (by decide +kernel)) (fun _ _ _ _ _ => pg_name (i := 5) sc_Lright.nd rfl (Or.inl rfl)) (fun _ _ _ _ _ => pts_nil) (fun _ _ _ _ _ => (pe_ix (ixl (K := K)) (pv 5) (pv 4) (fun _ _ => rfl)))) (pe_call c_Lcolumn.ok (hr.mono (by decide)) (by rfl) c_Lcolumn.gl c_Lcolumn.kp c_Lcolumn.bd .nil pass0 (pa_cons (pv 1) (pa_cons (pv 2) (pa_cons (pv 4) pa_nil)))) (nomark _)) (pss_one (ps_ret pe_bl)) pss_nil)))
      (pss_one (ps_ret pe_bl)))))), Go.here ?_⟩
    walk_at "s"; walk_at "ks"
    refine c_tup_tup hp ?_
    walk_at "ks"
    refine ⟨fun hb => Bool.noConfusion hb, fun _ => ?_⟩
    walk_at "ks"
    refine c_lenT (st_of hp) ?_
    walk_at "ks"
    refine ⟨fun hb => Bool.noConfusion hb, fun _ => ?_⟩
    walk_at "ks"
    refine r_ixT (v := .int (Pt.st ns Gs).s) (st_of hp) rfl ?_
    walk_at "ks"
    refine ⟨(by show 1 ≤ 100000; decide), fun o no => ?_⟩
    have e1 : Ex H (upd H o (.lst [V.int (Pt.st ns Gs).s])) := Ex.new no
    walk_at "ks"
    refine k_Lwholes (ns := [(Pt.st ns Gs).s]) rfl upd_same ?_
    walk_at "ks"
    refine ⟨fun hb => Bool.noConfusion hb, fun _ => ?_⟩
    generalize upd H o (.lst [V.int (Pt.st ns Gs).s]) = H1 at e1
    walk_at "s"; walk_at "ks"
    refine r_ixT (v := .int (Pt.st ns Gs).s) (st_of (e1 _ _ hp)) rfl ?_
    walk_at "ks"
    refine k_Lscale (L.up e1) ?_
    walk_at "ks"
    rw [decide_eq_true rfl]
    refine ⟨fun hb => Bool.noConfusion hb, fun _ => ?_⟩
    walk_at "s"; walk_at "ks"
    refine r_ixT (v := .ref T) (st_of (e1 _ _ hp)) rfl ?_
    walk_at "ks"
    refine r_ixT (v := .int (Pt.st ns Gs).s) (st_of (e1 _ _ hp)) rfl ?_
    walk_at "ks"
    refine (L.up e1).row (i := 0) (Nat.zero_le _) fun r0 hr0 => ?_
    walk_at "ks"
    refine (L.up e1).lastRow fun rl hrl => ?_
    walk_at "ks"
    refine k_Ladds_up (hT.up e1) hr0 hrl go hnl (Bd.mono bs (by omega)) hent L.bd bc ?_
    walk_at "ks"
    refine ⟨fun hb => Bool.noConfusion hb, fun _ => ?_⟩
    refine gs_forF ?_
    walk_at "ks"
    refine ⟨c, cs.map V.int, fun i σ' H' => ∃ (v4 : Option V), σ' = [some (.ref p), some (.ref R), some (.ref G), some (.ref c), v4, none] ∧ Ex H H', rfl, ex_l e1 hc, ⟨none, rfl, e1⟩, ?_, ?_, ?_⟩
    · rintro i σ' H' _ ⟨_, _, e⟩
      exact ex_l e hc
    · rintro i x σ' H' hx ⟨v4, rfl, e⟩
      obtain ⟨j, gj, rfl⟩ := Pm.map_at hx
      obtain ⟨j0, j1⟩ := hcs j (List.mem_of_getElem? gj)
      obtain ⟨k, ek⟩ : ∃ k : Nat, j = (k : Int) := ⟨j.toNat, by omega⟩
      subst ek
      have hk : k < ns.length := by omega
      walk_at "s"; walk_at "ks"
      refine k_lcL (a := T) (xs := ts.map V.ref) (fun i _ => .int (((Pt.st ns Gs).M.getD i []).getD k 0)) ?_
      walk_at "ks"
      refine r_ixT (v := .ref T) (st_of (e _ _ hp)) rfl ?_
      have hTe := hT.up e
      have hML : (Pt.st ns Gs).M.length = ns.length := go.len
      refine ⟨rfl, sq_of hTe.lst, by rw [List.length_map, hT.len]; omega, fun _ => rfl, fun m x Hz hx ez => ?_, fun d nd => ?_⟩
      · obtain ⟨r, hr, rfl⟩ := refs_at hx
        obtain ⟨l, hl⟩ : ∃ l, (Pt.st ns Gs).M[m]? = some l := ⟨_, List.getElem?_eq_getElem (by rw [← hT.len]; exact (List.getElem?_eq_some_iff.mp hr).1)⟩
        have hll : l.length = ns.length := go.rlen l (List.mem_of_getElem? hl)
        walk_at "ks"
        refine r_ixL (sq_of ((hTe.up ez).row m r l hr hl)) (at_getD (by omega) (by omega)) ⟨?_, rfl⟩
        rw [Int.toNat_natCast, List.getD_eq_getElem?_getD (l := (Pt.st ns Gs).M), hl]
        rfl
      have hcol : (ts.map V.ref).mapIdx (fun i _ => V.int (((Pt.st ns Gs).M.getD i []).getD k 0)) = (Pt.colOf (Pt.st ns Gs).M k).map V.int := by
        apply List.ext_getElem?
        intro m
        unfold Pt.colOf
        rw [List.getElem?_mapIdx, List.getElem?_map, List.getElem?_map, List.getElem?_map]
        by_cases hm : m < ts.length
        · rw [List.getElem?_eq_getElem hm, Pt.getD_row (show m < (Pt.st ns Gs).M.length by rw [← hT.len]; exact hm)]
          rfl
        · rw [List.getElem?_eq_none (by omega), List.getElem?_eq_none (by rw [← hT.len]; omega)]
          rfl
      rw [hcol]
      have e3 := e.trans (Ex.new (o := .lst ((Pt.colOf (Pt.st ns Gs).M k).map V.int)) nd)
      have d3 : (upd H' d (.lst ((Pt.colOf (Pt.st ns Gs).M k).map V.int))) d = some (.lst ((Pt.colOf (Pt.st ns Gs).M k).map V.int)) := upd_same
      generalize upd H' d (.lst ((Pt.colOf (Pt.st ns Gs).M k).map V.int)) = H3 at e3 d3
      walk_at "ks"
      refine k_Lcolumn (L.up e3) hk fun u H4 e4 hu => ?_
      refine r_neI2 (sq_of (e4 _ _ d3)) hu ?_
      walk_at "ks"
      refine ⟨fun hb => Bool.noConfusion hb, fun _ => ?_⟩
      exact g1_next fun H5 e5 => ⟨_, e5, _, rfl, e3.trans e4⟩
    · rintro σ' H' ⟨v4, rfl, e⟩
      walk_at "s"; walk_at "ks"
      exact q.up e
theorem ok_Lrefused {C_PurseError C_NoGift : Addr} (T : TxtE K mg C_PurseError C_NoGift) {f : Addr} {fd : FuncData} (F : Fun K "_law_refused" "_law_refused" s_Lrefused f fd) (B : Bl mg) {f_shares : Addr} {fd_shares : FuncData} (c_shares : Cl P w K mg base (L2.CX P w) 3 "shares" f_shares fd_shares ["row", "gifts"] (spshares K C_NoGift)) : FnOk P w K mg base CX0 4 f fd ["_law_row_here", "_law_gifts"] (spLrefused K) := by
  refine F.ok sc_Lrefused (fun vs H Q E h => ?_) (fun cdv A outer s H vs Q E hr h => ?_)
  · obtain ⟨a, b, ns, gs, Gs, rfl, _⟩ := h
    rfl
  · obtain ⟨a, b, ns, gs, Gs, rfl, hS, hG, hl, hl2, hb, hw, q⟩ := h
    refine ⟨_, (pss_cons (ps_tryAs (K := K) (i := 2) (Wout := fun _ _ _ _ => False) rfl rfl sc_Lrefused.nd rfl rfl ⟨rfl, by decide, Or.inl T.g_PurseError⟩ takes0
        (fun W pn xe tk po => (pss_one (ps_expr (pe_callS c_shares.ok (hr.mono (by decide)) (by rfl) c_shares.gl c_shares.kp c_shares.bd (fun σ => passAt tk σ) (by exact (pa_cons (pv 0) (pa_cons (pv 1) pa_nil)))))))
        (suiteD (C := C_NoGift) fun a oe pn hz hf => (pss_one (ps_ret (pe_callB (bIsE T.CE hz hf) (by rfl) B.isinstance_ boot_isinstance (pa_cons (pv 2) (pa_cons (pe_glob (v := .ref C_NoGift) rfl T.g_NoGift rfl) pa_nil)))))))
      (pss_one (ps_ret pe_bl))), Go.here ?_⟩
    refine gs_try ?_
    refine g2_drop ?_
    refine k_callS ?_
    walk_at "ks"
    refine k_shares hS hG hl hl2 hb (fun _ => ?_) (fun ms hm => by rw [hw] at hm; cases hm)
    refine ke_as T.e_PurseError fun x nx => g_tsD ?_
    walk_at "s"; walk_at "ks"
    exact c_isE T.n_NoGift q
theorem ok_law {C_PurseError C_NoGift : Addr} (T : TxtE K mg C_PurseError C_NoGift) {f : Addr} {fd : FuncData} (F : Fun K "law" "law" s_law f fd) (B : Bl mg) {f_Lcell_at : Addr} {fd_Lcell_at : FuncData} (c_Lcell_at : Cl P w K mg base CX0 1 "_law_cell_at" f_Lcell_at fd_Lcell_at ["_law_script", "_law_k"] (spLcell_at K)) {f_Ldone : Addr} {fd_Ldone : FuncData} (c_Ldone : Cl P w K mg base CX0 1 "_law_done" f_Ldone fd_Ldone ["_law_row_here", "_law_gift_here"] (spLdone K)) {f_Lgift : Addr} {fd_Lgift : FuncData} (c_Lgift : Cl P w K mg base CX0 1 "_law_gift" f_Lgift fd_Lgift ["_law_cell", "_law_row_here"] (spLgift K)) {f_Lrefused : Addr} {fd_Lrefused : FuncData} (c_Lrefused : Cl P w K mg base CX0 4 "_law_refused" f_Lrefused fd_Lrefused ["_law_row_here", "_law_gifts"] (spLrefused K)) {f_Lright : Addr} {fd_Lright : FuncData} (c_Lright : Cl P w K mg base CX0 3 "_law_right" f_Lright fd_Lright ["_law_found", "_law_rows", "_law_gifts", "_law_columns"] (spLright K)) {f_Lrow : Addr} {fd_Lrow : FuncData} (c_Lrow : Cl P w K mg base CX0 3 "_law_row" f_Lrow fd_Lrow ["_law_script"] (spLrow K)) {f_Lunfit : Addr} {fd_Lunfit : FuncData} (c_Lunfit : Cl P w K mg base CX0 2 "_law_unfit" f_Lunfit fd_Lunfit ["_law_script", "_law_row_here"] (spLunfit K)) {f_shares : Addr} {fd_shares : FuncData} (c_shares : Cl P w K mg base (L2.CX P w) 3 "shares" f_shares fd_shares ["row", "gifts"] (spshares K C_NoGift)) : FnOk P w K mg base CX0 5 f fd ["_law_script"] (spLaw K) := by
  refine F.ok sc_law (fun vs H Q E h => ?_) (fun cdv A outer s H vs Q E hr h => ?_)
  · obtain ⟨a, ns, rfl, _⟩ := h
    rfl
  · obtain ⟨a, ns, rfl, hS, hl, hbits, q⟩ := h
    have hB : AllBd 1048576 ns := fun z hz => Bd.bits (hbits z hz)
    refine ⟨_, (pss_cons (ps_set (i := 1) sc_law.nd rfl (Or.inl rfl) (pe_lst (pa_cons (pe_call c_Lrow.ok (hr.mono (by decide)) (by rfl) c_Lrow.gl c_Lrow.kp c_Lrow.bd .nil pass0 (pa_cons (pv 0) pa_nil)) pa_nil)))
      (pss_cons (ps_set (i := 2) sc_law.nd rfl (Or.inl rfl) (pe_lst pa_nil))
      (pss_cons (ps_for PassesOwn.never rfl (piL (K := K) (pe_slice (sll (K := K)) (pv 0) (po_some pe_int) (po_some pe_int))) (pg_name (i := 3) sc_law.nd rfl (Or.inl rfl)) (pss_cons (ps_set (i := 4) sc_law.nd rfl (Or.inl rfl) (pe_call c_Lgift.ok (hr.mono (by decide)) (by rfl) c_Lgift.gl c_Lgift.kp c_Lgift.bd .nil pass0 (pa_cons (pv 3) (pa_cons (pe_ix (ixl (K := K)) (pv 1) (pe_un un_neg pe_int) (fun _ _ => rfl)) pa_nil))))
      (pss_one (ps_if (pt_cmpR op_notN (pv 4) pe_non (nomark _)) (pss_cons (ps_expr (peBm (K := K) PySem.F.plainAttrs_list PySem.F.slot_list_append PySem.F.type_list_append mt_append (pv 2) (pa_cons (pv 4) pa_nil)))
      (pss_one (ps_expr (peBm (K := K) PySem.F.plainAttrs_list PySem.F.slot_list_append PySem.F.type_list_append mt_append (pv 1) (pa_cons (pe_call c_Ldone.ok (hr.mono (by decide)) (by rfl) c_Ldone.gl c_Ldone.kp c_Ldone.bd .nil pass0 (pa_cons (pe_ix (ixl (K := K)) (pv 1) (pe_un un_neg pe_int) (fun _ _ => rfl)) (pa_cons (pv 4) pa_nil))) pa_nil))))) pss_nil))))
      (pss_cons (ps_set (i := 5) sc_law.nd rfl (Or.inr rfl) (pe_callB (bLen (K := K)) (by rfl) B.len_ boot_len (pa_cons (pe_ix (ixl (K := K)) (pv 1) pe_int (fun _ _ => rfl)) pa_nil)))
      (pss_cons (ps_set (i := 6) sc_law.nd rfl (Or.inl rfl) (pe_listRg rfl (by rfl) B.list_ (prg_1 (by rfl) B.range_ (pv 5))))
      (Evl.pss_cut (ps_if (pt_cmpR op_gt (pv 5) pe_int (nomark _)) (pss_one (ps_setLc (i := 6) (own := [("_law_k", 12)]) (g := gName 12) (tt := tYes) rfl sc_law.nd rfl rfl (sw_true rfl rfl rfl (by decide +kernel)) (pi_range1 (by rfl) B.range_ (pa_cons pe_int pa_nil)) (blkOk_by (own := [("_law_k", 12)]) (N := n_law) (sc := defScope s_law) (by decide +kernel)) (fun _ _ _ _ _ => pg_name (i := 12) sc_law.nd rfl (Or.inl rfl)) (fun _ _ _ _ _ => pts_nil) (fun _ _ _ _ _ => (pe_op op_mod (pe_op op_add (pe_op op_fdiv (pe_call c_Lcell_at.ok (hr.mono (by decide)) (by rfl) c_Lcell_at.gl c_Lcell_at.kp c_Lcell_at.bd .nil pass0 (pa_cons (pv 0) (pa_cons pe_int pa_nil))) pe_int) (pe_op op_mulX pe_int (pv 12))) (pv 5))))) pss_nil)
      (pss_cons (ps_set (i := 7) sc_law.nd rfl (Or.inl rfl) (pe_callTy (bList (K := K)) (by rfl) B.list_ boot_list (pa_cons (pe_ix (ixl (K := K)) (pv 1) pe_int (fun _ _ => rfl)) pa_nil)))
      (pss_cons (ps_set (i := 8) sc_law.nd rfl (Or.inl rfl) (pe_callTy (bList (K := K)) (by rfl) B.list_ boot_list (pa_cons (pv 2) pa_nil)))
      (pss_cons (ps_set (i := 9) sc_law.nd rfl (Or.inl rfl) (pe_call c_shares.ok (hr.mono (by decide)) (by rfl) c_shares.gl c_shares.kp c_shares.bd .nil passL (pa_cons (pv 7) (pa_cons (pv 8) pa_nil))))
      (pss_cons (ps_if (PW.pt (pw_or (pt_not (pt_val (pe_call c_Lright.ok (hr.mono (by decide)) (by rfl) c_Lright.gl c_Lright.kp c_Lright.bd .nil pass0 (pa_cons (pv 9) (pa_cons (pv 1) (pa_cons (pv 2) (pa_cons (pv 6) pa_nil))))))) (pw_or (pt_cmpR (oNeD (K := K) hr.units) (pv 7) (pe_ix (ixl (K := K)) (pv 1) pe_int (fun _ _ => rfl)) (nomark _)) (pw_or1 (pt_cmpR (oNeD (K := K) hr.units) (pv 8) (pv 2) (nomark _)))))) (pss_one (ps_ret pe_bl)) pss_nil)
      (pss_cons (ps_for PassesOwn.never rfl (piL (K := K) (pe_ix (ixt (K := K)) (pv 9) pe_int (fun _ _ => rfl))) (pg_name (i := 10) sc_law.nd rfl (Or.inl rfl)) (pss_one (ps_expr (peBm (K := K) PySem.F.plainAttrs_list PySem.F.slot_list_append PySem.F.type_list_append mt_append (pv 10) (pa_cons pe_int pa_nil)))))
      (pss_cons (ps_set (i := 11) sc_law.nd rfl (Or.inl rfl) (pe_op op_mod (pe_op op_fdiv (pe_call c_Lcell_at.ok (hr.mono (by decide)) (by rfl) c_Lcell_at.gl c_Lcell_at.kp c_Lcell_at.bd .nil pass0 (pa_cons (pv 0) (pa_cons pe_int pa_nil))) pe_int) (pe_op op_add (pe_callB (bLen (K := K)) (by rfl) B.len_ boot_len (pa_cons (pv 2) pa_nil)) pe_int)))
      (pss_cons (ps_expr (peBm (K := K) PySem.F.plainAttrs_list PySem.F.slot_list_insert PySem.F.type_list_insert mt_insert (pv 8) (pa_cons (pv 11) (pa_cons (pe_call c_Lunfit.ok (hr.mono (by decide)) (by rfl) c_Lunfit.gl c_Lunfit.kp c_Lunfit.bd .nil pass0 (pa_cons (pv 0) (pa_cons (pe_ix (ixl (K := K)) (pv 1) (pv 11) (fun _ _ => rfl)) pa_nil))) pa_nil))))
      (pss_cons (ps_if (pt_not (pt_val (pe_call c_Lrefused.ok (hr.mono (by decide)) (by rfl) c_Lrefused.gl c_Lrefused.kp c_Lrefused.bd .nil pass0 (pa_cons (pv 7) (pa_cons (pv 8) pa_nil))))) (pss_one (ps_ret pe_bl)) pss_nil)
      (pss_cons (ps_expr (peBm (K := K) PySem.F.plainAttrs_list PySem.F.slot_list_pop PySem.F.type_list_pop mt_popAt (pv 8) (pa_cons (pv 11) pa_nil)))
      (pss_one (ps_ret (pe_and (pe_cmpR (oEqD (K := K) hr.units) (pv 7) (pe_ix (ixl (K := K)) (pv 1) pe_int (fun _ _ => rfl)) (nomark _)) (pe_one (pe_or (pe_cmpR op_gt (pv 5) pe_int (nomark _)) (pe_one (pe_call c_Lright.ok (hr.mono (by decide)) (by rfl) c_Lright.gl c_Lright.kp c_Lright.bd .nil pass0 (pa_cons (pe_call c_shares.ok (hr.mono (by decide)) (by rfl) c_shares.gl c_shares.kp c_shares.bd .nil passL (pa_cons (pv 7) (pa_cons (pv 8) pa_nil))) (pa_cons (pv 1) (pa_cons (pv 2) (pa_cons (pv 6) pa_nil)))))))))))))))))))))))))), Go.here ?_⟩
    walk_at "s"; walk_at "ks"
    refine k_Lrow hS hB fun ms p hm hmB np => ?_
    walk_at "ks"
    refine ⟨(by show 1 ≤ 100000; decide), fun R nR => ?_⟩
    have p1 : (upd (upd H p (.lst (ms.map V.int))) R (.lst [V.ref p])) p = some (.lst (ms.map V.int)) := at_up upd_same nR
    have R1 : (upd (upd H p (.lst (ms.map V.int))) R (.lst [V.ref p])) R = some (.lst [V.ref p]) := upd_same
    have e1 : Ex H (upd (upd H p (.lst (ms.map V.int))) R (.lst [V.ref p])) := (Ex.new np).trans (Ex.new nR)
    have hRp : p ≠ R := fun e => by
      subst e
      rw [upd_same] at nR
      cases nR
    generalize upd (upd H p (.lst (ms.map V.int))) R (.lst [V.ref p]) = H1 at p1 R1 e1
    walk_at "s"; walk_at "ks"
    refine ⟨(by show 0 ≤ 100000; decide), fun G nG => ?_⟩
    have p2 := at_up (o := .lst []) p1 nG
    have R2 := at_up (o := .lst []) R1 nG
    have G2 : (upd H1 G (.lst [])) G = some (.lst []) := upd_same
    have hGR : R ≠ G := ne_of_none R1 nG
    have hGp : p ≠ G := ne_of_none p1 nG
    have e2 := e1.trans (Ex.new (o := .lst []) nG)
    generalize upd H1 G (.lst []) = H2 at p2 R2 G2 e2
    refine gs_forF ?_
    walk_at "ks"
    refine r_slL (ex_l e2 hS) fun c nc => ?_
    obtain ⟨cs, ec, hcs1, hcs2⟩ := cut_ints ns (some 3) (some 26)
    rw [ec]
    have p4 := at_up (o := .lst (cs.map V.int)) p2 nc
    have R4 := at_up (o := .lst (cs.map V.int)) R2 nc
    have G4 := at_up (o := .lst (cs.map V.int)) G2 nc
    have c4 : (upd H2 c (.lst (cs.map V.int))) c = some (.lst (cs.map V.int)) := upd_same
    have hcR : c ≠ R := (ne_of_none R2 nc).symm
    have hcG : c ≠ G := (ne_of_none G2 nc).symm
    have e4 := e2.trans (Ex.new (o := .lst (cs.map V.int)) nc)
    generalize upd H2 c (.lst (cs.map V.int)) = H4 at p4 R4 G4 c4 e4
    refine ⟨c, cs.map V.int, fun i σ' H' => ∃ (v u : Option V) (rs gs : List Addr) (Ls : List (List Int)) (Gs : List Pg.Gift), σ' = [some (.ref a), some (.ref R), some (.ref G), v, u, none, none, none, none, none, none, none, none] ∧ Ex H H' ∧ LawSt H' R G c rs gs Ls Gs cs ∧ Gs.length ≤ i ∧ Ls[0]? = some ms ∧ ∀ l ∈ Ls, l.length = ms.length ∧ AllBd 210 l, rfl, sq_of c4, ⟨none, none, [p], [], [ms], [], rfl, e4, ⟨R4, G4, c4, hGR, hcR, hcG, rfl, rfl, fun i r l hr hl => ?_, fun i g z hg _ => ?_, ⟨rfl, fun i l m z _ _ hz => ?_⟩⟩, Nat.zero_le _, rfl, fun l hl => ?_⟩, ?_, ?_, ?_⟩
    · cases i with
      | zero =>
        have h1 : p = r := Option.some.inj hr
        have h2 : ms = l := Option.some.inj hl
        subst h1 h2
        exact ⟨p4, hRp, hGp⟩
      | succ i => cases hr
    · cases hg
    · cases hz
    · rw [List.mem_singleton.mp hl]
      exact ⟨rfl, hmB⟩
    · rintro i σ' H' _ ⟨v, u, rs, gs, Ls, Gs, _, _, S, _⟩
      exact sq_of S.hc
    · rintro i x σ' H' hx ⟨v, u, rs, gs, Ls, Gs, rfl, e, S, hGi, h0, hb⟩
      obtain ⟨z, hz, rfl⟩ := Pm.map_at hx
      have hi : i < cs.length := (List.getElem?_eq_some_iff.mp hz).1
      have hLl := S.ch.len
      obtain ⟨l, hll⟩ : ∃ l, Ls[Gs.length]? = some l := ⟨_, List.getElem?_eq_getElem (by omega)⟩
      obtain ⟨r, hrr⟩ : ∃ r, rs[Gs.length]? = some r := ⟨_, List.getElem?_eq_getElem (by rw [S.rl]; omega)⟩
      have hrow := (S.row _ r l hrr hll).1
      have hlm := hb l (List.mem_of_getElem? hll)
      have hlast : ∀ H'' : Hp, H'' R = some (.lst (rs.map V.ref)) → ∀ P, P (.ref r) H'' → RK (rIxL K) (.ref R) (.int (-1)) H'' P := fun H'' hh P hp => r_ixL (sq_of hh) (by
        rw [Pm.atI_neg (by rw [List.length_map, S.rl, hLl]; omega), List.length_map, S.rl, hLl, Nat.add_sub_cancel, List.getElem?_map, hrr]
        rfl) hp
      walk_at "s"; walk_at "ks"
      refine hlast _ S.hR _ ?_
      walk_at "ks"
      refine k_Lgift (sq_of hrow) (by omega) ?_ fun g t d p hf np => ?_
      · walk_at "s"; walk_at "ks"
        refine r_notN ?_
        walk_at "ks"
        refine ⟨fun hb => Bool.noConfusion hb, fun _ => ?_⟩
        exact g1_next fun H1 e1 => ⟨_, e1, _, _, rs, gs, Ls, Gs, rfl, e, S, by omega, h0, hb⟩
      · have hHR : H R = none := (none_of_up nR).1
        have hHG : H G = none := fresh_back e1 nG
        walk_at "s"; walk_at "ks"
        refine r_notN ?_
        walk_at "ks"
        refine ⟨fun _ => ?_, fun hb => Bool.noConfusion hb⟩
        have G5 := at_up (o := .tup [V.int g, V.int t, V.int d]) S.hG np
        have R5 := at_up (o := .tup [V.int g, V.int t, V.int d]) S.hR np
        have r5 := at_up (o := .tup [V.int g, V.int t, V.int d]) hrow np
        walk_at "s"; walk_at "ks"
        refine ⟨tyl (sq_of G5), ?_⟩
        walk_at "ks"
        refine m_append G5 (by rw [List.length_map, S.gl]; omega) ?_
        have R6 : (upd (upd H' p (.tup [V.int g, V.int t, V.int d])) G (.lst (gs.map V.ref ++ [V.ref p]))) R = some (.lst (rs.map V.ref)) := by
          rw [upd_ne S.RG]
          exact R5
        have r6 : (upd (upd H' p (.tup [V.int g, V.int t, V.int d])) G (.lst (gs.map V.ref ++ [V.ref p]))) r = some (.lst (l.map V.int)) := by
          rw [upd_ne (S.row _ r l hrr hll).2.2]
          exact r5
        have t6 : (upd (upd H' p (.tup [V.int g, V.int t, V.int d])) G (.lst (gs.map V.ref ++ [V.ref p]))) p = some (.tup [V.int g, V.int t, V.int d]) := by
          rw [upd_ne (ne_of_none S.hG np).symm, upd_same]
        walk_at "s"; walk_at "ks"
        refine ⟨tyl (sq_of R6), ?_⟩
        walk_at "ks"
        refine hlast _ R6 _ ?_
        walk_at "ks"
        refine k_Ldone (z := (g, t, d)) (sq_of r6) (st_of t6) (by assumption) fun q nq => ?_
        walk_at "ks"
        have hRq : R ≠ q := ne_of_none R6 nq
        refine m_append (xs := rs.map V.ref) (by rw [upd_ne hRq]; exact R6) (by rw [List.length_map, S.rl, hLl]; omega) fun H7 e7 => ⟨_, e7, _, _, _, _, _, _, rfl, ?_, S.more (z := (g, t, d)) hll (by assumption) np nq, ?_, ?_, ?_⟩
        · have nq1 : (upd H' p (.tup [V.int g, V.int t, V.int d])) q = none := by
            have hqG : q ≠ G := fun e => by
              subst e
              rw [upd_same] at nq
              cases nq
            rw [upd_ne hqG] at nq
            exact nq
          have x1 : Ex H (upd H' p (.tup [V.int g, V.int t, V.int d])) := e.trans (Ex.new np)
          have x2 := Ex.mut (o := .lst (gs.map V.ref ++ [V.ref p])) x1 hHG
          have x3 := x2.trans (Ex.new (o := .lst ((Pg.done l g t d).map V.int)) nq)
          exact Ex.mut x3 hHR
        · rw [List.length_append]
          show Gs.length + 1 ≤ i + 1
          omega
        · rw [List.getElem?_append_left (by omega)]
          exact h0
        · intro m hm
          rcases List.mem_append.mp hm with h1 | h1
          · exact hb m h1
          · rw [List.mem_singleton.mp h1]
            exact ⟨(Pg.done_len _ _ _ _).trans hlm.1, Pg.bd_done (by assumption) hlm.2⟩
    · rintro σ' H' ⟨v, u, rs, gs, Ls, Gs, rfl, e, S, hGi, h0, hb⟩
      rw [List.length_map] at hGi
      have hLl := S.ch.len
      obtain ⟨ll, hll⟩ : ∃ l, Ls[Gs.length]? = some l := ⟨_, List.getElem?_eq_getElem (by omega)⟩
      obtain ⟨rl, hrl⟩ : ∃ r, rs[Gs.length]? = some r := ⟨_, List.getElem?_eq_getElem (by rw [S.rl]; omega)⟩
      obtain ⟨r0, hr0⟩ : ∃ r, rs[0]? = some r := ⟨_, List.getElem?_eq_getElem (by rw [S.rl]; omega)⟩
      have hS5 := ex_l e hS
      have hRW : RwL K H' R rs Ls := S.rwl
      have hGF : GfL K H' G gs Gs := S.gfl
      have hrow0 := (S.row _ r0 ms hr0 h0).1
      have hrowl := (S.row _ rl ll hrl hll).1
      clear e4 c4 G4 R4 p4 G2 R2 p2 R1 p1
      have ixR : ∀ H'' (i : Nat) r (P : V → Hp → Prop), Ex H' H'' → rs[i]? = some r → P (.ref r) H'' → RK (rIxL K) (.ref R) (.int (i : Int)) H'' P := fun H'' i r P e hr hp => r_ixL (hRW.up e).lst (atI_nat (by rw [List.getElem?_map, hr]; rfl)) hp
      have lastR : ∀ H'' (P : V → Hp → Prop), Ex H' H'' → P (.ref rl) H'' → RK (rIxL K) (.ref R) (.int (-1)) H'' P := fun H'' P e hp => r_ixL (hRW.up e).lst (by
        rw [Pm.atI_neg (by rw [List.length_map, S.rl, hLl]; omega), List.length_map, S.rl, hLl, Nat.add_sub_cancel, List.getElem?_map, hrl]
        rfl) hp
      have hwalk : Pg.walk ms Gs = some ll := by
        have hw := S.ch.walk h0 Gs.length (Nat.le_refl _)
        rw [List.take_length, hll] at hw
        exact hw
      have hlen : ll.length = ms.length := (hb ll (List.mem_of_getElem? hll)).1
      have LW : Lw K H' R G rs gs Ls Gs ms := ⟨hRW, hGF, S.ch, h0, by omega, by omega, hmB⟩
      have hmn : AllBd 210 ms := hmB
      walk_at "s"; walk_at "ks"
      refine ixR _ 0 r0 _ (Ex.refl _) hr0 ?_
      walk_at "ks"
      refine c_len (sq_of hrow0) ?_
      rw [List.length_map]
      walk_at "s"
      refine k_lstRg ?_
      walk_at "ks"
      refine ⟨by omega, fun c nc => ?_⟩
      refine gs_mid (fun σ' H'' => ∃ (c : Addr) (cs : List Int), σ' = [some (.ref a), some (.ref R), some (.ref G), v, u, some (.int (ms.length : Int)), some (.ref c), none, none, none, none, none, none] ∧ Ex H' H'' ∧ SqL K H'' c (cs.map V.int) ∧ ∀ x ∈ cs, 0 ≤ x ∧ x < (ms.length : Int)) ?_ ?_
      · have e5 := Ex.new (o := .lst (((List.range ms.length).map fun (i : Nat) => (i : Int)).map V.int)) nc
        walk_at "s"; walk_at "ks"
        refine ⟨fun hb => ?_, fun hb => ?_⟩
        · have h8 := of_decide_eq_true hb
          walk_at "s"
          refine k_lcR (n := 3) (fun i => .int ((cellAt ns 1 / 24 + 5 * (i : Int)) % (ms.length : Int))) ?_
          walk_at "ks"
          refine ⟨rfl, by decide, by decide, fun _ => rfl, fun i Hz hi ez => ?_, fun d nd => ?_⟩
          · have bi : Bd 10 (i : Int) := by unfold Bd; omega
            walk_at "ks"
            refine k_Lcell_at (ex_l (e5.trans ez) hS5) (by decide) ?_
            walk_at "ks"
            exact ⟨rfl, rfl⟩
          · refine fun H6 e6 => ⟨_, e6, d, (List.range 3).map (fun (i : Nat) => (cellAt ns 1 / 24 + 5 * (i : Int)) % (ms.length : Int)), rfl, e5.trans (Ex.new nd), ?_, fun x hx => ?_⟩
            · rw [List.map_map]
              exact sq_of upd_same
            · obtain ⟨i, _, rfl⟩ := List.mem_map.mp hx
              exact ⟨Int.emod_nonneg _ (by omega), Int.emod_lt_of_pos _ (by omega)⟩
        · refine g1_next fun H6 e6 => ⟨_, e6, c, _, rfl, e5, sq_of upd_same, fun x hx => ?_⟩
          obtain ⟨i, hi, rfl⟩ := List.mem_map.mp hx
          have := List.mem_range.mp hi
          omega
      clear nc
      clear c
      rintro σ' J0 ⟨c, cols, rfl, f0, hc0, hcols⟩
      walk_at "s"; walk_at "ks"
      refine ixR _ 0 r0 _ f0 hr0 ?_
      walk_at "ks"
      refine c_list (sq_of (f0 _ _ hrow0)) fun h nh => ?_
      have f1 := f0.trans (Ex.new (o := .lst (ms.map V.int)) nh)
      have hc1 := ex_l (Ex.new (o := .lst (ms.map V.int)) nh) hc0
      have h1 : (upd J0 h (.lst (ms.map V.int))) h = some (.lst (ms.map V.int)) := upd_same
      generalize upd J0 h (.lst (ms.map V.int)) = J1 at f1 hc1 h1
      walk_at "s"; walk_at "ks"
      refine c_list (hGF.up f1).lst fun k nk => ?_
      have f2 := f1.trans (Ex.new (o := .lst (gs.map V.ref)) nk)
      have hc2 := ex_l (Ex.new (o := .lst (gs.map V.ref)) nk) hc1
      have h2 := at_up (o := .lst (gs.map V.ref)) h1 nk
      have k2 : (upd J1 k (.lst (gs.map V.ref))) k = some (.lst (gs.map V.ref)) := upd_same
      have hkh : h ≠ k := ne_of_none h1 nk
      have nk0 : H' k = none := fresh_back f1 nk
      generalize hJ2 : upd J1 k (.lst (gs.map V.ref)) = J2 at f2 hc2 h2 k2
      have gf2 : GfL K J2 k gs Gs := ⟨sq_of k2, hGF.len, (hGF.up f2).tup⟩
      walk_at "s"; walk_at "ks"
      refine fun E => k_shares (sq_of h2) gf2 (by omega) (by omega) hmB (fun hn => by rw [hwalk] at hn; cases hn) fun _ _ p T ts J3 e23 hp3 hT3 frT => ?_
      have f3 := f2.trans e23
      have h3 := e23 _ _ h2
      have k3 := e23 _ _ k2
      have hc3 := ex_l e23 hc2
      walk_at "s"; walk_at "ks"
      refine k_Lright hp3 hT3 (LW.up f3) hc3 hcols ?_
      walk_at "ks"
      refine ⟨fun hb => Bool.noConfusion hb, fun _ => ?_⟩
      walk_at "ks"
      refine ixR _ 0 r0 _ f3 hr0 ?_
      refine r_neI2 (sq_of h3) (sq_of (f3 _ _ hrow0)) ?_
      walk_at "ks"
      refine ⟨fun hb => Bool.noConfusion hb, fun _ => ?_⟩
      walk_at "ks"
      refine r_neS (dp_gifts ⟨sq_of k3, hGF.len, (hGF.up f3).tup⟩) (dp_gifts (hGF.up f3)) (sh_gifts Gs) ?_
      walk_at "ks"
      refine ⟨fun hb => Bool.noConfusion hb, fun _ => ?_⟩
      have go : Pt.Good ms (Pt.st ms Gs) := by
        have U := LW.upto (Nat.le_refl _)
        have g := U.good
        rw [List.take_length] at g
        exact g
      have hTne : ∀ r ∈ ts, r ≠ T := fun r hr => by
        obtain ⟨i, hi⟩ := List.mem_iff_getElem?.mp hr
        exact hT3.ne hi (List.getElem?_eq_getElem (by rw [← hT3.len]; exact (List.getElem?_eq_some_iff.mp hi).1))
      refine gs_forF ?_
      walk_at "ks"
      refine r_ixT (v := .ref T) (st_of hp3) rfl ?_
      refine ⟨T, ts.map V.ref, fun i σ' H'' => ∃ (v10 : Option V), σ' = [some (.ref a), some (.ref R), some (.ref G), v, u, some (.int (ms.length : Int)), some (.ref c), some (.ref h), some (.ref k), some (.ref p), v10, none, none] ∧ Ex J2 H'' ∧ H'' T = some (.lst (ts.map V.ref)) ∧ ∀ r ∈ ts, ∃ xs : List V, H'' r = some (.lst xs) ∧ xs.length ≤ 1000 + i, rfl, sq_of hT3.lst, ⟨none, rfl, e23, hT3.lst, fun r hr => ?_⟩, ?_, ?_, ?_⟩
      · obtain ⟨i, hi⟩ := List.mem_iff_getElem?.mp hr
        obtain ⟨l, hl2⟩ : ∃ l, (Pt.st ms Gs).M[i]? = some l := ⟨_, List.getElem?_eq_getElem (by rw [← hT3.len]; exact (List.getElem?_eq_some_iff.mp hi).1)⟩
        refine ⟨_, hT3.row i r l hi hl2, ?_⟩
        rw [List.length_map, go.rlen l (List.mem_of_getElem? hl2)]
        omega
      · rintro i σ' H'' _ ⟨_, _, _, hT, _⟩
        exact sq_of hT
      · rintro i x σ' H'' hx ⟨v10, rfl, e, hT, hrows⟩
        obtain ⟨r, hr, rfl⟩ := refs_at hx
        have mr := List.mem_of_getElem? hr
        obtain ⟨xs, hxs, hxl⟩ := hrows r mr
        have hil : i < ts.length := (List.getElem?_eq_some_iff.mp hr).1
        have htl : ts.length = ms.length := by rw [hT3.len]; exact go.len
        walk_at "s"; walk_at "ks"
        refine ⟨tyl (sq_of hxs), ?_⟩
        walk_at "ks"
        refine m_append hxs (by omega) fun H6 e6 => ⟨_, e6, _, rfl, Ex.mut e (frT r mr), ?_, fun r' mr' => ?_⟩
        · rw [upd_ne (hTne r mr).symm]
          exact hT
        · by_cases c1 : r' = r
          · subst c1
            exact ⟨_, upd_same, by rw [List.length_append]; show xs.length + 1 ≤ _; omega⟩
          · obtain ⟨ys, hys, hyl⟩ := hrows r' mr'
            exact ⟨ys, by rw [upd_ne c1]; exact hys, by omega⟩
      rintro σ' J4 ⟨v10, rfl, e24, _, _⟩
      have f4 := f2.trans e24
      have h4 := e24 _ _ h2
      have k4 := e24 _ _ k2
      have hc4 := ex_l e24 hc2
      walk_at "s"; walk_at "ks"
      refine k_Lcell_at (ex_l f4 hS5) (by decide) ?_
      walk_at "ks"
      refine c_len (hGF.up f4).lst ?_
      rw [List.length_map, hGF.len]
      walk_at "ks"
      have j0 := Int.emod_nonneg (cellAt ns 1 / 5) (show ((Gs.length : Int) + 1) ≠ 0 by omega)
      have j1 := Int.emod_lt_of_pos (cellAt ns 1 / 5) (show 0 < ((Gs.length : Int) + 1) by omega)
      obtain ⟨j, ej⟩ : ∃ j : Nat, cellAt ns 1 / 5 % ((Gs.length : Int) + 1) = (j : Int) := ⟨_, (Int.toNat_of_nonneg j0).symm⟩
      rw [ej] at j1
      rw [ej]
      have hj : j ≤ Gs.length := by omega
      obtain ⟨lj, hlj⟩ : ∃ l, Ls[j]? = some l := ⟨_, List.getElem?_eq_getElem (by omega)⟩
      obtain ⟨rj, hrj⟩ : ∃ r, rs[j]? = some r := ⟨_, List.getElem?_eq_getElem (by rw [S.rl]; omega)⟩
      have hrowj := (S.row _ rj lj hrj hlj).1
      walk_at "s"; walk_at "ks"
      refine ⟨tyl (sq_of k4), ?_⟩
      walk_at "ks"
      refine ixR _ j rj _ f4 hrj ?_
      walk_at "ks"
      refine k_Lunfit (ex_l f4 hS5) (sq_of (f4 _ _ hrowj)) (by rw [(hb lj (List.mem_of_getElem? hlj)).1]; omega) fun g t d w nf nu => ?_
      have f5 := f4.trans (Ex.new (o := .tup [V.int g, V.int t, V.int d]) nu)
      have h5 := at_up (o := .tup [V.int g, V.int t, V.int d]) h4 nu
      have k5 := at_up (o := .tup [V.int g, V.int t, V.int d]) k4 nu
      have hc5 := ex_l (Ex.new (o := .tup [V.int g, V.int t, V.int d]) nu) hc4
      have u5 : (upd J4 w (.tup [V.int g, V.int t, V.int d])) w = some (.tup [V.int g, V.int t, V.int d]) := upd_same
      have e15 : Ex J1 (upd J4 w (.tup [V.int g, V.int t, V.int d])) := by
        have x1 : Ex J1 J2 := by
          rw [← hJ2]
          exact Ex.new nk
        exact (x1.trans e24).trans (Ex.new nu)
      generalize upd J4 w (.tup [V.int g, V.int t, V.int d]) = J5 at f5 h5 k5 u5 hc5 e15
      walk_at "ks"
      refine m_insert k5 (by rw [List.length_map, hGF.len]; omega) (by omega) ?_
      have hgl := hGF.len
      have eins : (gs.map V.ref).take j ++ [V.ref w] ++ (gs.map V.ref).drop j = (gs.take j ++ [w] ++ gs.drop j).map V.ref := by
        rw [List.map_append, List.map_append, List.map_take, List.map_drop]
        rfl
      rw [eins]
      have f6 := Ex.mut (o := .lst ((gs.take j ++ [w] ++ gs.drop j).map V.ref)) f5 nk0
      have e16 := Ex.mut (o := .lst ((gs.take j ++ [w] ++ gs.drop j).map V.ref)) e15 nk
      have h6 : (upd J5 k (.lst ((gs.take j ++ [w] ++ gs.drop j).map V.ref))) h = some (.lst (ms.map V.int)) := by
        rw [upd_ne hkh]
        exact h5
      have k6 : (upd J5 k (.lst ((gs.take j ++ [w] ++ gs.drop j).map V.ref))) k = some (.lst ((gs.take j ++ [w] ++ gs.drop j).map V.ref)) := upd_same
      have u6 : (upd J5 k (.lst ((gs.take j ++ [w] ++ gs.drop j).map V.ref))) w = some (.tup [V.int g, V.int t, V.int d]) := by
        rw [upd_ne (fun e => by subst e; rw [k5] at u5; cases u5)]
        exact u5
      generalize upd J5 k (.lst ((gs.take j ++ [w] ++ gs.drop j).map V.ref)) = J6 at f6 h6 k6 u6 e16
      have gf6 : GfL K J6 k (gs.take j ++ [w] ++ gs.drop j) (Gs.take j ++ [(g, t, d)] ++ Gs.drop j) := by
        refine ⟨sq_of k6, by rw [List.length_append, List.length_append, List.length_append, List.length_append, List.length_take, List.length_take, List.length_drop, List.length_drop, hgl]; rfl, fun i x z hx hz => ?_⟩
        have hlt : (gs.take j).length = j := by rw [List.length_take, hgl]; omega
        have hlt2 : (Gs.take j).length = j := by rw [List.length_take]; omega
        rw [List.append_assoc] at hx hz
        by_cases c1 : i < j
        · rw [List.getElem?_append_left (by omega)] at hx hz
          rw [List.getElem?_take_of_lt c1] at hx hz
          exact (hGF.up f6).tup i x z hx hz
        · rw [List.getElem?_append_right (by omega), hlt] at hx
          rw [List.getElem?_append_right (by omega), hlt2] at hz
          by_cases c2 : i = j
          · rw [c2, Nat.sub_self] at hx hz
            have a1 : w = x := Option.some.inj hx
            have a2 : (g, t, d) = z := Option.some.inj hz
            subst a1 a2
            exact st_of u6
          · obtain ⟨m, em⟩ : ∃ m, i - j = m + 1 := ⟨i - j - 1, by omega⟩
            rw [em] at hx hz
            have hx2 : (gs.drop j)[m]? = some x := hx
            have hz2 : (Gs.drop j)[m]? = some z := hz
            rw [List.getElem?_drop] at hx2 hz2
            exact (hGF.up f6).tup _ x z hx2 hz2
      have hbad : Pg.walk ms (Gs.take j ++ [(g, t, d)] ++ Gs.drop j) = none := by
        have hw := S.ch.walk h0 j hj
        rw [hlj] at hw
        rw [List.append_assoc]
        exact Pg.walk_stop hw nf
      walk_at "s"; walk_at "ks"
      refine k_Lrefused (sq_of h6) gf6 (by omega) (by rw [List.length_append, List.length_append, List.length_take, List.length_drop]; show _ + 1 + _ ≤ _; omega) hmB hbad ?_
      walk_at "ks"
      refine ⟨fun hb => Bool.noConfusion hb, fun _ => ?_⟩
      walk_at "s"; walk_at "ks"
      refine ⟨tyl (sq_of k6), ?_⟩
      walk_at "ks"
      have hlt : (gs.take j).length = j := by rw [List.length_take, hgl]; omega
      refine m_popAt (y := .ref w) k6 (by rw [List.length_map, List.length_append, List.length_append, List.length_take, List.length_drop, hgl]; show _ + 1 + _ < _; omega) (by
        rw [List.getElem?_map, List.append_assoc, List.getElem?_append_right (by omega), hlt, Nat.sub_self]
        rfl) ?_
      have epop : ((gs.take j ++ [w] ++ gs.drop j).map V.ref).eraseIdx j = gs.map V.ref := by
        rw [List.append_assoc, List.map_append, List.eraseIdx_append_of_length_le (by rw [List.length_map]; omega), List.length_map, hlt, Nat.sub_self]
        show (gs.take j).map V.ref ++ (gs.drop j).map V.ref = _
        rw [← List.map_append, List.take_append_drop]
      rw [epop]
      have f7 := Ex.mut (o := .lst (gs.map V.ref)) f6 nk0
      have e17 := Ex.mut (o := .lst (gs.map V.ref)) e16 nk
      have h7 : (upd J6 k (.lst (gs.map V.ref))) h = some (.lst (ms.map V.int)) := by
        rw [upd_ne hkh]
        exact h6
      have k7 : (upd J6 k (.lst (gs.map V.ref))) k = some (.lst (gs.map V.ref)) := upd_same
      generalize upd J6 k (.lst (gs.map V.ref)) = J7 at f7 h7 k7 e17
      have gf7 : GfL K J7 k gs Gs := ⟨sq_of k7, hGF.len, (hGF.up f7).tup⟩
      walk_at "s"; walk_at "ks"
      refine ixR _ 0 r0 _ f7 hr0 ?_
      refine r_eqI2 (sq_of h7) (sq_of (f7 _ _ hrow0)) ?_
      walk_at "ks"
      refine ⟨fun _ => ?_, fun hb => Bool.noConfusion hb⟩
      walk_at "ks"
      refine ⟨fun _ => ?_, fun _ => ?_⟩
      · exact fun H9 _ => q H9
      walk_at "ks"
      refine fun E => k_shares (sq_of h7) gf7 (by omega) (by omega) hmB (fun hn => by rw [hwalk] at hn; cases hn) fun _ _ p2 T2 ts2 J8 e78 hp8 hT8 _ => ?_
      walk_at "ks"
      exact k_Lright hp8 hT8 (LW.up (f7.trans e78)) (ex_l (e17.trans e78) hc1) hcols fun H9 _ => q H9
end
theorem all_mk {l : PySem.W.OpenLaw} {w : World} {K : PySem.W.Frag} {h : Heap} {mg : Str → Option Value} {fa f1 f2 f3 f4 f5 f6 f7 f8 f9 f10 f11 f12 f13 f14 f15 f16 f17 : Addr} (X : K.In h) (G : h.Ns mainGlobals mg) (hfa : mg "law" = some (.ref fa))
    {od1 an1 od2 an2 od3 an3 od4 an4 od5 an5 od6 an6 od7 an7 od8 an8 od9 an9 od10 an10 od11 an11 od12 an12 od13 an13 od14 an14 od15 an15 od16 an16 od17 an17 : Option Addr} {sl1 sl2 sl3 sl4 sl5 sl6 sl7 sl8 sl9 sl10 sl11 sl12 sl13 sl14 sl15 sl16 sl17 : Array (Option Value)} {oc1 kV1 dc1 pm1 cd1 ct1 oc2 kV2 dc2 pm2 cd2 ct2 oc3 kV3 dc3 pm3 cd3 ct3 oc4 kV4 dc4 pm4 cd4 ct4 oc5 kV5 dc5 pm5 cd5 ct5 oc6 kV6 dc6 pm6 cd6 ct6 oc7 kV7 dc7 pm7 cd7 ct7 oc8 kV8 dc8 pm8 cd8 ct8 oc9 kV9 dc9 pm9 cd9 ct9 oc10 kV10 dc10 pm10 cd10 ct10 oc11 kV11 dc11 pm11 cd11 ct11 oc12 kV12 dc12 pm12 cd12 ct12 oc13 kV13 dc13 pm13 cd13 ct13 oc14 kV14 dc14 pm14 cd14 ct14 oc15 kV15 dc15 pm15 cd15 ct15 oc16 kV16 dc16 pm16 cd16 ct16 oc17 kV17 dc17 pm17 cd17 ct17 : Value} {C_PurseError C_NoGift : Addr}
    (a1 : PySem.W.nsIn K mainGlobals "_law_cell_at" = some (some (.ref f1))) (l1 : K.lookup f1 = some ⟨oc1, od1, .func (PySem.W.fnOf "_law_cell_at" "_law_cell_at" (defArgs s_Lcell_at) (defBody s_Lcell_at) (defScope s_Lcell_at) .none kV1 dc1 pm1 an1 cd1 ct1), sl1⟩) (c1 : PySem.W.codeIn K cd1 "_law_cell_at" = true) (k1 : PySem.W.keepIn K (.ref f1) = true)
    (a2 : PySem.W.nsIn K mainGlobals "_law_done" = some (some (.ref f2))) (l2 : K.lookup f2 = some ⟨oc2, od2, .func (PySem.W.fnOf "_law_done" "_law_done" (defArgs s_Ldone) (defBody s_Ldone) (defScope s_Ldone) .none kV2 dc2 pm2 an2 cd2 ct2), sl2⟩) (c2 : PySem.W.codeIn K cd2 "_law_done" = true) (k2 : PySem.W.keepIn K (.ref f2) = true)
    (a3 : PySem.W.nsIn K mainGlobals "_law_gift" = some (some (.ref f3))) (l3 : K.lookup f3 = some ⟨oc3, od3, .func (PySem.W.fnOf "_law_gift" "_law_gift" (defArgs s_Lgift) (defBody s_Lgift) (defScope s_Lgift) .none kV3 dc3 pm3 an3 cd3 ct3), sl3⟩) (c3 : PySem.W.codeIn K cd3 "_law_gift" = true) (k3 : PySem.W.keepIn K (.ref f3) = true)
    (a4 : PySem.W.nsIn K mainGlobals "blended" = some (some (.ref f4))) (l4 : K.lookup f4 = some ⟨oc4, od4, .func (PySem.W.fnOf "blended" "blended" (defArgs s_blended) (defBody s_blended) (defScope s_blended) .none kV4 dc4 pm4 an4 cd4 ct4), sl4⟩) (c4 : PySem.W.codeIn K cd4 "blended" = true) (k4 : PySem.W.keepIn K (.ref f4) = true)
    (a5 : PySem.W.nsIn K mainGlobals "fits" = some (some (.ref f5))) (l5 : K.lookup f5 = some ⟨oc5, od5, .func (PySem.W.fnOf "fits" "fits" (defArgs s_fits) (defBody s_fits) (defScope s_fits) .none kV5 dc5 pm5 an5 cd5 ct5), sl5⟩) (c5 : PySem.W.codeIn K cd5 "fits" = true) (k5 : PySem.W.keepIn K (.ref f5) = true)
    (a6 : PySem.W.nsIn K mainGlobals "done" = some (some (.ref f6))) (l6 : K.lookup f6 = some ⟨oc6, od6, .func (PySem.W.fnOf "done" "done" (defArgs s_done) (defBody s_done) (defScope s_done) .none kV6 dc6 pm6 an6 cd6 ct6), sl6⟩) (c6 : PySem.W.codeIn K cd6 "done" = true) (k6 : PySem.W.keepIn K (.ref f6) = true)
    (a7 : PySem.W.nsIn K mainGlobals "shares" = some (some (.ref f7))) (l7 : K.lookup f7 = some ⟨oc7, od7, .func (PySem.W.fnOf "shares" "shares" (defArgs s_shares) (defBody s_shares) (defScope s_shares) .none kV7 dc7 pm7 an7 cd7 ct7), sl7⟩) (c7 : PySem.W.codeIn K cd7 "shares" = true) (k7 : PySem.W.keepIn K (.ref f7) = true)
    (a8 : PySem.W.nsIn K mainGlobals "_law_refused" = some (some (.ref f8))) (l8 : K.lookup f8 = some ⟨oc8, od8, .func (PySem.W.fnOf "_law_refused" "_law_refused" (defArgs s_Lrefused) (defBody s_Lrefused) (defScope s_Lrefused) .none kV8 dc8 pm8 an8 cd8 ct8), sl8⟩) (c8 : PySem.W.codeIn K cd8 "_law_refused" = true) (k8 : PySem.W.keepIn K (.ref f8) = true)
    (a9 : PySem.W.nsIn K mainGlobals "_law_wholes" = some (some (.ref f9))) (l9 : K.lookup f9 = some ⟨oc9, od9, .func (PySem.W.fnOf "_law_wholes" "_law_wholes" (defArgs s_Lwholes) (defBody s_Lwholes) (defScope s_Lwholes) .none kV9 dc9 pm9 an9 cd9 ct9), sl9⟩) (c9 : PySem.W.codeIn K cd9 "_law_wholes" = true) (k9 : PySem.W.keepIn K (.ref f9) = true)
    (a10 : PySem.W.nsIn K mainGlobals "_law_adds_up" = some (some (.ref f10))) (l10 : K.lookup f10 = some ⟨oc10, od10, .func (PySem.W.fnOf "_law_adds_up" "_law_adds_up" (defArgs s_Ladds_up) (defBody s_Ladds_up) (defScope s_Ladds_up) .none kV10 dc10 pm10 an10 cd10 ct10), sl10⟩) (c10 : PySem.W.codeIn K cd10 "_law_adds_up" = true) (k10 : PySem.W.keepIn K (.ref f10) = true)
    (a11 : PySem.W.nsIn K mainGlobals "_law_column" = some (some (.ref f11))) (l11 : K.lookup f11 = some ⟨oc11, od11, .func (PySem.W.fnOf "_law_column" "_law_column" (defArgs s_Lcolumn) (defBody s_Lcolumn) (defScope s_Lcolumn) .none kV11 dc11 pm11 an11 cd11 ct11), sl11⟩) (c11 : PySem.W.codeIn K cd11 "_law_column" = true) (k11 : PySem.W.keepIn K (.ref f11) = true)
    (a12 : PySem.W.nsIn K mainGlobals "_law_scale" = some (some (.ref f12))) (l12 : K.lookup f12 = some ⟨oc12, od12, .func (PySem.W.fnOf "_law_scale" "_law_scale" (defArgs s_Lscale) (defBody s_Lscale) (defScope s_Lscale) .none kV12 dc12 pm12 an12 cd12 ct12), sl12⟩) (c12 : PySem.W.codeIn K cd12 "_law_scale" = true) (k12 : PySem.W.keepIn K (.ref f12) = true)
    (a13 : PySem.W.nsIn K mainGlobals "_law_right" = some (some (.ref f13))) (l13 : K.lookup f13 = some ⟨oc13, od13, .func (PySem.W.fnOf "_law_right" "_law_right" (defArgs s_Lright) (defBody s_Lright) (defScope s_Lright) .none kV13 dc13 pm13 an13 cd13 ct13), sl13⟩) (c13 : PySem.W.codeIn K cd13 "_law_right" = true) (k13 : PySem.W.keepIn K (.ref f13) = true)
    (a14 : PySem.W.nsIn K mainGlobals "_law_mixed" = some (some (.ref f14))) (l14 : K.lookup f14 = some ⟨oc14, od14, .func (PySem.W.fnOf "_law_mixed" "_law_mixed" (defArgs s_Lmixed) (defBody s_Lmixed) (defScope s_Lmixed) .none kV14 dc14 pm14 an14 cd14 ct14), sl14⟩) (c14 : PySem.W.codeIn K cd14 "_law_mixed" = true) (k14 : PySem.W.keepIn K (.ref f14) = true)
    (a15 : PySem.W.nsIn K mainGlobals "_law_row" = some (some (.ref f15))) (l15 : K.lookup f15 = some ⟨oc15, od15, .func (PySem.W.fnOf "_law_row" "_law_row" (defArgs s_Lrow) (defBody s_Lrow) (defScope s_Lrow) .none kV15 dc15 pm15 an15 cd15 ct15), sl15⟩) (c15 : PySem.W.codeIn K cd15 "_law_row" = true) (k15 : PySem.W.keepIn K (.ref f15) = true)
    (a16 : PySem.W.nsIn K mainGlobals "_law_unfit" = some (some (.ref f16))) (l16 : K.lookup f16 = some ⟨oc16, od16, .func (PySem.W.fnOf "_law_unfit" "_law_unfit" (defArgs s_Lunfit) (defBody s_Lunfit) (defScope s_Lunfit) .none kV16 dc16 pm16 an16 cd16 ct16), sl16⟩) (c16 : PySem.W.codeIn K cd16 "_law_unfit" = true) (k16 : PySem.W.keepIn K (.ref f16) = true)
    (a17 : PySem.W.nsIn K mainGlobals "law" = some (some (.ref f17))) (l17 : K.lookup f17 = some ⟨oc17, od17, .func (PySem.W.fnOf "law" "law" (defArgs s_law) (defBody s_law) (defScope s_law) .none kV17 dc17 pm17 an17 cd17 ct17), sl17⟩) (c17 : PySem.W.codeIn K cd17 "law" = true) (k17 : PySem.W.keepIn K (.ref f17) = true)
    (z_bool : PySem.W.nsIn K mainGlobals "bool" = some none) (z_int : PySem.W.nsIn K mainGlobals "int" = some none) (z_isinstance : PySem.W.nsIn K mainGlobals "isinstance" = some none) (z_len : PySem.W.nsIn K mainGlobals "len" = some none) (z_list : PySem.W.nsIn K mainGlobals "list" = some none) (z_max : PySem.W.nsIn K mainGlobals "max" = some none) (z_min : PySem.W.nsIn K mainGlobals "min" = some none) (z_range : PySem.W.nsIn K mainGlobals "range" = some none) (z_sum : PySem.W.nsIn K mainGlobals "sum" = some none) (z_tuple : PySem.W.nsIn K mainGlobals "tuple" = some none) (z_zip : PySem.W.nsIn K mainGlobals "zip" = some none)
    (ePurseError : PySem.W.nsIn K mainGlobals "PurseError" = some (some (.ref C_PurseError))) (eNoGift : PySem.W.nsIn K mainGlobals "NoGift" = some (some (.ref C_NoGift))) (xN : PySem.W.excIn K C_NoGift [.type "ValueError", .type "Exception", .type "BaseException", .type "object"] "ValueError.__new__" = true) (kN : PySem.W.keepIn K (.ref C_NoGift) = true) (bN : PySem.W.subIn K (.ref C_NoGift) (.type "BaseException") = some true) (tN : PySem.W.typeIn K (.ref C_NoGift) = some (.type "type")) (q1PurseError : PySem.W.subIn K (.ref C_PurseError) (.type "BaseException") = some true) (q2PurseError : PySem.W.hasDictIn K C_PurseError = true) (q3PurseError : PySem.W.typeIn K (.ref C_PurseError) = some (.type "type")) (q4PurseError : PySem.W.subIn K (.ref C_NoGift) (.ref C_PurseError) = some true) (ga : PySem.W.findIn K (.ref C_NoGift) "__getattribute__" = some (some (.builtin "BaseException.__getattribute__"))) (gg : PySem.W.findIn K (.ref C_NoGift) "__getattr__" = some none) (hN : PySem.W.hasDictIn K C_NoGift = true) (gc : PySem.W.findIn K (.ref C_NoGift) "__class__" = some (some (.builtin "object.__class__"))) (gs : PySem.W.specialIn K (.builtin "object.__class__") "__get__" = some (some (.builtin "getset_descriptor.__get__"))) (gt : PySem.W.takesIn K (.builtin "object.__class__") = some true) (mo : PySem.W.mroIn K C_NoGift (.type "object") = some true) (kitNoGift : PySem.W.kitOne K (.ref C_NoGift) (.ref C_NoGift) = some true)
    : ∃ fd : FuncData, (∀ (s : Shared) (v : Value), BindsTo s fd ⟨[v], []⟩ [("_law_script", v)]) ∧ ∀ base : Heap, K.In base → base.Ns mainGlobals mg → FnOk l.prog w K mg base CX0 5 fa fd ["_law_script"] (spLaw K) := by
  have e := hfa.symm.trans (PySem.W.mg_of X G a17)
  cases e
  have B : Bl mg := ⟨PySem.W.mg_none_of X G z_bool, PySem.W.mg_none_of X G z_int, PySem.W.mg_none_of X G z_isinstance, PySem.W.mg_none_of X G z_len, PySem.W.mg_none_of X G z_list, PySem.W.mg_none_of X G z_max, PySem.W.mg_none_of X G z_min, PySem.W.mg_none_of X G z_range, PySem.W.mg_none_of X G z_sum, PySem.W.mg_none_of X G z_tuple, PySem.W.mg_none_of X G z_zip⟩
  have T : TxtE K mg C_PurseError C_NoGift := ⟨PySem.W.mg_of X G ePurseError, PySem.W.mg_of X G eNoGift, xN, kN, bN, tN, PySem.W.exm_ref q1PurseError q2PurseError q3PurseError q4PurseError, ⟨ga, gg, bN, hN, gc, gs, gt, mo⟩, kitNoGift⟩
  have F1 := fun_mk (st := s_Lcell_at) l1 c1 k1
  have b1 := F1.binds (ps := ["_law_script", "_law_k"]) fun _ _ _ _ _ _ us hl => match us, hl with | [_, _], _ => rfl
  have F2 := fun_mk (st := s_Ldone) l2 c2 k2
  have b2 := F2.binds (ps := ["_law_row_here", "_law_gift_here"]) fun _ _ _ _ _ _ us hl => match us, hl with | [_, _], _ => rfl
  have F3 := fun_mk (st := s_Lgift) l3 c3 k3
  have b3 := F3.binds (ps := ["_law_cell", "_law_row_here"]) fun _ _ _ _ _ _ us hl => match us, hl with | [_, _], _ => rfl
  have F4 := fun_mk (st := s_blended) l4 c4 k4
  have b4 := F4.binds (ps := ["ones", "others", "stay", "move"]) fun _ _ _ _ _ _ us hl => match us, hl with | [_, _, _, _], _ => rfl
  have F5 := fun_mk (st := s_fits) l5 c5 k5
  have b5 := F5.binds (ps := ["row", "gift"]) fun _ _ _ _ _ _ us hl => match us, hl with | [_, _], _ => rfl
  have F6 := fun_mk (st := s_done) l6 c6 k6
  have b6 := F6.binds (ps := ["row", "gift"]) fun _ _ _ _ _ _ us hl => match us, hl with | [_, _], _ => rfl
  have F7 := fun_mk (st := s_shares) l7 c7 k7
  have b7 := F7.binds (ps := ["row", "gifts"]) fun _ _ _ _ _ _ us hl => match us, hl with | [_, _], _ => rfl
  have F8 := fun_mk (st := s_Lrefused) l8 c8 k8
  have b8 := F8.binds (ps := ["_law_row_here", "_law_gifts"]) fun _ _ _ _ _ _ us hl => match us, hl with | [_, _], _ => rfl
  have F9 := fun_mk (st := s_Lwholes) l9 c9 k9
  have b9 := F9.binds (ps := ["_law_found", "_law_many"]) fun _ _ _ _ _ _ us hl => match us, hl with | [_, _], _ => rfl
  have F10 := fun_mk (st := s_Ladds_up) l10 c10 k10
  have b10 := F10.binds (ps := ["_law_table", "_law_scale_here", "_law_first", "_law_last"]) fun _ _ _ _ _ _ us hl => match us, hl with | [_, _, _, _], _ => rfl
  have F11 := fun_mk (st := s_Lcolumn) l11 c11 k11
  have b11 := F11.binds (ps := ["_law_rows", "_law_gifts", "_law_at"]) fun _ _ _ _ _ _ us hl => match us, hl with | [_, _, _], _ => rfl
  have F12 := fun_mk (st := s_Lscale) l12 c12 k12
  have b12 := F12.binds (ps := ["_law_rows", "_law_gifts"]) fun _ _ _ _ _ _ us hl => match us, hl with | [_, _], _ => rfl
  have F13 := fun_mk (st := s_Lright) l13 c13 k13
  have b13 := F13.binds (ps := ["_law_found", "_law_rows", "_law_gifts", "_law_columns"]) fun _ _ _ _ _ _ us hl => match us, hl with | [_, _, _, _], _ => rfl
  have F14 := fun_mk (st := s_Lmixed) l14 c14 k14
  have b14 := F14.binds (ps := ["_law_script", "_law_k"]) fun _ _ _ _ _ _ us hl => match us, hl with | [_, _], _ => rfl
  have F15 := fun_mk (st := s_Lrow) l15 c15 k15
  have b15 := F15.binds (ps := ["_law_script"]) fun _ _ _ _ _ _ us hl => match us, hl with | [_], _ => rfl
  have F16 := fun_mk (st := s_Lunfit) l16 c16 k16
  have b16 := F16.binds (ps := ["_law_script", "_law_row_here"]) fun _ _ _ _ _ _ us hl => match us, hl with | [_, _], _ => rfl
  have F17 := fun_mk (st := s_law) l17 c17 k17
  refine ⟨PySem.W.fnOf "law" "law" (defArgs s_law) (defBody s_law) (defScope s_law) .none kV17 dc17 pm17 an17 cd17 ct17, fun s v => .of_eq rfl, fun base _ _ => ?_⟩
  have c_Lcell_at : Cl l.prog w K mg base CX0 1 "_law_cell_at" f1 _ ["_law_script", "_law_k"] (spLcell_at K) := ⟨ok_Lcell_at T F1 B, PySem.W.mg_of X G a1, k1, b1⟩
  have c_Ldone : Cl l.prog w K mg base CX0 1 "_law_done" f2 _ ["_law_row_here", "_law_gift_here"] (spLdone K) := ⟨ok_Ldone T F2 B, PySem.W.mg_of X G a2, k2, b2⟩
  have c_Lgift : Cl l.prog w K mg base CX0 1 "_law_gift" f3 _ ["_law_cell", "_law_row_here"] (spLgift K) := ⟨ok_Lgift T F3 B, PySem.W.mg_of X G a3, k3, b3⟩
  have c_blended : Cl l.prog w K mg base CX0 1 "blended" f4 _ ["ones", "others", "stay", "move"] (spblended K) := ⟨ok_blended T F4 B, PySem.W.mg_of X G a4, k4, b4⟩
  have c_fits : Cl l.prog w K mg base CX0 1 "fits" f5 _ ["row", "gift"] (spfits K) := ⟨ok_fits T F5 B, PySem.W.mg_of X G a5, k5, b5⟩
  have c_done : Cl l.prog w K mg base (L2.CX l.prog w) 2 "done" f6 _ ["row", "gift"] (spdone K C_NoGift) := ⟨ok_done T F6 B c_fits, PySem.W.mg_of X G a6, k6, b6⟩
  have c_shares : Cl l.prog w K mg base (L2.CX l.prog w) 3 "shares" f7 _ ["row", "gifts"] (spshares K C_NoGift) := ⟨ok_shares T F7 B c_blended c_done, PySem.W.mg_of X G a7, k7, b7⟩
  have c_Lrefused : Cl l.prog w K mg base CX0 4 "_law_refused" f8 _ ["_law_row_here", "_law_gifts"] (spLrefused K) := ⟨ok_Lrefused T F8 B c_shares, PySem.W.mg_of X G a8, k8, b8⟩
  have c_Lwholes : Cl l.prog w K mg base CX0 1 "_law_wholes" f9 _ ["_law_found", "_law_many"] (spLwholes K) := ⟨ok_Lwholes T F9 B, PySem.W.mg_of X G a9, k9, b9⟩
  have c_Ladds_up : Cl l.prog w K mg base CX0 2 "_law_adds_up" f10 _ ["_law_table", "_law_scale_here", "_law_first", "_law_last"] (spLadds_up K) := ⟨ok_Ladds_up T F10 B c_Lwholes, PySem.W.mg_of X G a10, k10, b10⟩
  have c_Lcolumn : Cl l.prog w K mg base CX0 1 "_law_column" f11 _ ["_law_rows", "_law_gifts", "_law_at"] (spLcolumn K) := ⟨ok_Lcolumn T F11 B, PySem.W.mg_of X G a11, k11, b11⟩
  have c_Lscale : Cl l.prog w K mg base CX0 1 "_law_scale" f12 _ ["_law_rows", "_law_gifts"] (spLscale K) := ⟨ok_Lscale T F12 B, PySem.W.mg_of X G a12, k12, b12⟩
  have c_Lright : Cl l.prog w K mg base CX0 3 "_law_right" f13 _ ["_law_found", "_law_rows", "_law_gifts", "_law_columns"] (spLright K) := ⟨ok_Lright T F13 B c_Ladds_up c_Lcolumn c_Lscale c_Lwholes, PySem.W.mg_of X G a13, k13, b13⟩
  have c_Lmixed : Cl l.prog w K mg base CX0 2 "_law_mixed" f14 _ ["_law_script", "_law_k"] (spLmixed K) := ⟨ok_Lmixed T F14 B c_Lcell_at, PySem.W.mg_of X G a14, k14, b14⟩
  have c_Lrow : Cl l.prog w K mg base CX0 3 "_law_row" f15 _ ["_law_script"] (spLrow K) := ⟨ok_Lrow T F15 B c_Lcell_at c_Lmixed, PySem.W.mg_of X G a15, k15, b15⟩
  have c_Lunfit : Cl l.prog w K mg base CX0 2 "_law_unfit" f16 _ ["_law_script", "_law_row_here"] (spLunfit K) := ⟨ok_Lunfit T F16 B c_Lcell_at, PySem.W.mg_of X G a16, k16, b16⟩
  exact ok_law T F17 B c_Lcell_at c_Ldone c_Lgift c_Lrefused c_Lright c_Lrow c_Lunfit c_shares

end K05
open PySem PySem.W PyProof.Rows
set_option maxRecDepth 100000 in
set_option maxHeartbeats 0 in
theorem PySem.Challenge.cw_pursewise_k05_shares_holds : PySem.Challenge.rw_pursewise_k05_shares.Holds := by
  w_on; o_law; k_head; (case hw => w_witness2)
  k_fill
  refine L2.walk_ofB (l := PySem.Challenge.rw_pursewise_k05_shares) (n := 63) (k := 5) (x := "_law_script") (CX := fun _ => L2.CX0) (sp := fun w => K05.spLaw _) rfl (by decide) rfl ⟨rfl, by decide, by decide⟩ (fun w h Y => PySem.W.kIn_of Y) ?F (fun _ _ a ns hl hb _ hS => ⟨a, ns, rfl, hS, hl, hb, fun _ => rfl⟩) (fun _ _ _ _ _ h => h)
  case F =>
    intro w mg fa h KX G hmg
    refine' K05.all_mk KX G hmg ?a1 ?l1 ?c1 ?k1 ?a2 ?l2 ?c2 ?k2 ?a3 ?l3 ?c3 ?k3 ?a4 ?l4 ?c4 ?k4 ?a5 ?l5 ?c5 ?k5 ?a6 ?l6 ?c6 ?k6 ?a7 ?l7 ?c7 ?k7 ?a8 ?l8 ?c8 ?k8 ?a9 ?l9 ?c9 ?k9 ?a10 ?l10 ?c10 ?k10 ?a11 ?l11 ?c11 ?k11 ?a12 ?l12 ?c12 ?k12 ?a13 ?l13 ?c13 ?k13 ?a14 ?l14 ?c14 ?k14 ?a15 ?l15 ?c15 ?k15 ?a16 ?l16 ?c16 ?k16 ?a17 ?l17 ?c17 ?k17 ?z_bool ?z_int ?z_isinstance ?z_len ?z_list ?z_max ?z_min ?z_range ?z_sum ?z_tuple ?z_zip ?ePurseError ?eNoGift ?xN ?kN ?bN ?tN ?q1PurseError ?q2PurseError ?q3PurseError ?q4PurseError ?ga ?gg ?hN ?gc ?gs ?gt ?mo ?kitNoGift
    (case a1 => k_is)
    (case l1 => k_is)
    (case c1 => k_is)
    (case k1 => k_is)
    (case a2 => k_is)
    (case l2 => k_is)
    (case c2 => k_is)
    (case k2 => k_is)
    (case a3 => k_is)
    (case l3 => k_is)
    (case c3 => k_is)
    (case k3 => k_is)
    (case a4 => k_is)
    (case l4 => k_is)
    (case c4 => k_is)
    (case k4 => k_is)
    (case a5 => k_is)
    (case l5 => k_is)
    (case c5 => k_is)
    (case k5 => k_is)
    (case a6 => k_is)
    (case l6 => k_is)
    (case c6 => k_is)
    (case k6 => k_is)
    (case a7 => k_is)
    (case l7 => k_is)
    (case c7 => k_is)
    (case k7 => k_is)
    (case a8 => k_is)
    (case l8 => k_is)
    (case c8 => k_is)
    (case k8 => k_is)
    (case a9 => k_is)
    (case l9 => k_is)
    (case c9 => k_is)
    (case k9 => k_is)
    (case a10 => k_is)
    (case l10 => k_is)
    (case c10 => k_is)
    (case k10 => k_is)
    (case a11 => k_is)
    (case l11 => k_is)
    (case c11 => k_is)
    (case k11 => k_is)
    (case a12 => k_is)
    (case l12 => k_is)
    (case c12 => k_is)
    (case k12 => k_is)
    (case a13 => k_is)
    (case l13 => k_is)
    (case c13 => k_is)
    (case k13 => k_is)
    (case a14 => k_is)
    (case l14 => k_is)
    (case c14 => k_is)
    (case k14 => k_is)
    (case a15 => k_is)
    (case l15 => k_is)
    (case c15 => k_is)
    (case k15 => k_is)
    (case a16 => k_is)
    (case l16 => k_is)
    (case c16 => k_is)
    (case k16 => k_is)
    (case a17 => k_is)
    (case l17 => k_is)
    (case c17 => k_is)
    (case k17 => k_is)
    (case z_bool => k_is)
    (case z_int => k_is)
    (case z_isinstance => k_is)
    (case z_len => k_is)
    (case z_list => k_is)
    (case z_max => k_is)
    (case z_min => k_is)
    (case z_range => k_is)
    (case z_sum => k_is)
    (case z_tuple => k_is)
    (case z_zip => k_is)
    (case ePurseError => k_is)
    (case eNoGift => k_is)
    (case xN => k_exc)
    (case kN => k_is)
    (case bN => k_is)
    (case tN => k_is)
    (case q1PurseError => k_is)
    (case q2PurseError => k_is)
    (case q3PurseError => k_is)
    (case q4PurseError => first | k_is | rfl)
    (case ga => k_is)
    (case gg => k_is)
    (case hN => k_is)
    (case gc => k_is)
    (case gs => first | k_is | rfl)
    (case gt => first | k_is | rfl)
    (case mo => k_is)
    (case kitNoGift => first | k_is | rfl)

