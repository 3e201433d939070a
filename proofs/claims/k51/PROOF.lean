import PyProof.Rows.All
import Wide.All
import OpenK.AllK
import Wide.FinOn
import HandS.ForMost
import HandS.ForExc
import HandS.IsInst
import PySem.Challenge.RW_duelsum_k51_fractions
set_option Elab.async false
set_option maxRecDepth 100000
set_option maxHeartbeats 4000000
namespace Du
open PySem PySem.Spec L2
/-! ### defs, methods, classes by their promises; everything may raise -/
structure CalX (P : Program) (w : World) (K : PySem.W.Frag) (mg : Str → Option Value) (base : Heap) (k : Nat) (x : Str) (sp : Sp) : Prop where
  ex : ∃ (f : Addr) (fd : FuncData) (ps : List Str), FnOk P w K mg base (L2.CX P w) k f fd ps sp ∧ mg x = some (.ref f) ∧ PySem.W.keepIn K (.ref f) = true ∧ Binds K fd ps []
structure MetX (P : Program) (w : World) (K : PySem.W.Frag) (mg : Str → Option Value) (base : Heap) (k : Nat) (C : Addr) (m : Str) (sp : Sp) : Prop where
  ex : ∃ (f : Addr) (fd : FuncData) (ps : List Str), Cls K C ∧ Meth K C m f ∧ FnOk P w K mg base (L2.CX P w) k f fd ps sp ∧ Binds K fd ps []
structure MakX (P : Program) (w : World) (K : PySem.W.Frag) (mg : Str → Option Value) (base : Heap) (k : Nat) (x : Str) (C : Addr) (sp : Sp) : Prop where
  ex : ∃ (f : Addr) (fd : FuncData) (ps : List Str), Mk K C f ∧ FnOk P w K mg base (L2.CX P w) k f fd ps sp ∧ mg x = some (.ref C) ∧ Binds K fd ps []
def tCx (sp : Sp) (E : XK) (t : TA) : TE := fun σ H Q => t σ H fun vs H1 => sp vs H1 Q E
def tMx (C : Addr) (m : Str) (sp : Sp) (E : XK) (ta : TE) (t : TA) : TE := fun σ H Q => ta σ H fun x H1 => ∃ a dx fs, x = .ref a ∧ H1 a = some (.ins C dx fs) ∧ fs.lookup m = none ∧ t σ H1 fun vs H2 => sp (x :: vs) H2 Q E
def tMxS (C : Addr) (m : Str) (sp : Sp) (E : St → XK) (ta : TE) (t : TA) : TE := fun σ H Q => ta σ H fun x H1 => ∃ a dx fs, x = .ref a ∧ H1 a = some (.ins C dx fs) ∧ fs.lookup m = none ∧ t σ H1 fun vs H2 => sp (x :: vs) H2 Q (E σ)
def tMkx (C : Addr) (sp : Sp) (E : XK) (t : TA) : TE := fun σ H Q => t σ H fun vs H1 => ∀ x dx, H1 x = none → H1 dx = none → dx ≠ x →
  sp (.ref x :: vs) (upd (upd H1 dx (.own x)) x (.ins C dx [])) (fun v H2 => v = .non ∧ Q (.ref x) H2) E
section
variable {X : Cx} {k j : Nat} {C : Addr} {x m : Str} {sp : Sp} {p pos apos : Pos} {e o : Expr} {es : List Expr} {ta : TE} {t : TA} {E : XK}
theorem tCall_nil : tCall sp [] E t = tCx sp E t := by
  funext σ H Q
  show t σ H (fun vs H1 => sp (vs ++ []) H1 Q E) = t σ H fun vs H1 => sp vs H1 Q E
  simp only [List.append_nil]
theorem pe_cxE (c : CalX X.prog X.w X.K X.mg X.base k x sp) (hr : Room j X.A) (hk : k ≤ j) (hg : Gl X x) (hx : Passes (L2.CX X.prog X.w) X E) (ha : PA X (e :: es) t)
    (hdb : (x == ("__debug__" : Str)) = false := by decide) (he : starEach (e :: es) X.env = (false, eval e X.env) :: starEach es X.env := by rfl) (hpl : (backTo pos (starEach es X.env)).any (·.1) = false := by rfl) :
    PE X (.Call (.Name x p) (e :: es) [] pos) (tCx sp E t) := by
  obtain ⟨f, fd, ps, F, hm, kp, b⟩ := c.ex
  rw [← tCall_nil]
  exact pe_call F (hr.mono hk) hg hm kp b .nil hx ha hdb he hpl
theorem pe_cx (c : CalX X.prog X.w X.K X.mg X.base k x sp) (hr : Room j X.A) (hk : k ≤ j) (hg : Gl X x) (ha : PA X (e :: es) t)
    (hdb : (x == ("__debug__" : Str)) = false := by decide) (he : starEach (e :: es) X.env = (false, eval e X.env) :: starEach es X.env := by rfl) (hpl : (backTo pos (starEach es X.env)).any (·.1) = false := by rfl) :
    PE X (.Call (.Name x p) (e :: es) [] pos) (tCx sp E0 t) := pe_cxE c hr hk hg passL ha hdb he hpl
/-- in a try's body -/
theorem pe_cxS {E : St → XK} (c : CalX X.prog X.w X.K X.mg X.base k x sp) (hr : Room j X.A) (hk : k ≤ j) (hg : Gl X x) (hx : ∀ σ, PassesAt (L2.CX X.prog X.w) X σ (E σ)) (ha : PA X (e :: es) t)
    (hdb : (x == ("__debug__" : Str)) = false := by decide) (he : starEach (e :: es) X.env = (false, eval e X.env) :: starEach es X.env := by rfl) (hpl : (backTo pos (starEach es X.env)).any (·.1) = false := by rfl) :
    PE X (.Call (.Name x p) (e :: es) [] pos) (tCallS sp E t) := by
  obtain ⟨f, fd, ps, F, hm, kp, b⟩ := c.ex
  exact pe_callS F (hr.mono hk) hg hm kp b hx ha hdb he hpl
theorem tMeth_nil : tMeth C m sp [] E ta t = tMx C m sp E ta t := by
  funext σ H Q
  show (ta σ H fun x H1 => ∃ a dx fs, x = V.ref a ∧ H1 a = some (.ins C dx fs) ∧ fs.lookup m = none ∧ t σ H1 fun vs H2 => sp (x :: (vs ++ [])) H2 Q E) = _
  simp only [List.append_nil]
  rfl
theorem pe_mxE {pl : Sem Bool} (c : MetX X.prog X.w X.K X.mg X.base k C m sp) (hr : Room j X.A) (hk : k ≤ j) (hx : Passes (L2.CX X.prog X.w) X E) (he : PE X o ta) (ha : PA X (e :: es) t)
    (hst : starEach (e :: es) X.env = (false, eval e X.env) :: starEach es X.env := by rfl) (hpl : (backTo pos (starEach es X.env)).any (·.1) = false := by rfl)
    (ht : eval (.Call (.Attribute o m apos) (e :: es) [] pos) X.env = (do
      let ov ← eval o X.env
      standAt apos.atName
      let (f, first) ← holding [ov] (getMethod ov m pl)
      callWith pos f first (backTo pos (starEach (e :: es) X.env)) (backToKw pos (keywordEach [] X.env))) := by rfl) :
    PE X (.Call (.Attribute o m apos) (e :: es) [] pos) (tMx C m sp E ta t) := by
  obtain ⟨f, fd, ps, hc, hm, F, b⟩ := c.ex
  rw [← tMeth_nil]
  exact pe_meth (pl := pl) he hc hm F (hr.mono hk) b .nil hx ha hst hpl ht
theorem pe_mxE0 {pl : Sem Bool} (c : MetX X.prog X.w X.K X.mg X.base k C m sp) (hr : Room j X.A) (hk : k ≤ j) (hx : Passes (L2.CX X.prog X.w) X E) (he : PE X o ta)
    (ht : eval (.Call (.Attribute o m apos) [] [] pos) X.env = (do
      let ov ← eval o X.env
      standAt apos.atName
      let (f, first) ← holding [ov] (getMethod ov m pl)
      callWith pos f first (backTo pos (starEach [] X.env)) (backToKw pos (keywordEach [] X.env))) := by rfl) :
    PE X (.Call (.Attribute o m apos) [] [] pos) (tMx C m sp E ta tNil) := by
  obtain ⟨f, fd, ps, hc, hm, F, b⟩ := c.ex
  rw [← tMeth_nil]
  exact pe_meth0 (pl := pl) he hc hm F (hr.mono hk) b .nil hx ht
theorem pe_mx {pl : Sem Bool} (c : MetX X.prog X.w X.K X.mg X.base k C m sp) (hr : Room j X.A) (hk : k ≤ j) (he : PE X o ta) (ha : PA X (e :: es) t)
    (hst : starEach (e :: es) X.env = (false, eval e X.env) :: starEach es X.env := by rfl) (hpl : (backTo pos (starEach es X.env)).any (·.1) = false := by rfl)
    (ht : eval (.Call (.Attribute o m apos) (e :: es) [] pos) X.env = (do
      let ov ← eval o X.env
      standAt apos.atName
      let (f, first) ← holding [ov] (getMethod ov m pl)
      callWith pos f first (backTo pos (starEach (e :: es) X.env)) (backToKw pos (keywordEach [] X.env))) := by rfl) :
    PE X (.Call (.Attribute o m apos) (e :: es) [] pos) (tMx C m sp E0 ta t) := pe_mxE c hr hk passL he ha hst hpl ht
theorem pe_mx0 {pl : Sem Bool} (c : MetX X.prog X.w X.K X.mg X.base k C m sp) (hr : Room j X.A) (hk : k ≤ j) (he : PE X o ta)
    (ht : eval (.Call (.Attribute o m apos) [] [] pos) X.env = (do
      let ov ← eval o X.env
      standAt apos.atName
      let (f, first) ← holding [ov] (getMethod ov m pl)
      callWith pos f first (backTo pos (starEach [] X.env)) (backToKw pos (keywordEach [] X.env))) := by rfl) :
    PE X (.Call (.Attribute o m apos) [] [] pos) (tMx C m sp E0 ta tNil) := pe_mxE0 c hr hk passL he ht
/-- a method in a try's body -/
theorem pe_mxS {E : St → XK} {pl : Sem Bool} (c : MetX X.prog X.w X.K X.mg X.base k C m sp) (hr : Room j X.A) (hk : k ≤ j) (hx : ∀ σ, PassesAt (L2.CX X.prog X.w) X σ (E σ)) (he : PE X o ta) (ha : PA X (e :: es) t)
    (hst : starEach (e :: es) X.env = (false, eval e X.env) :: starEach es X.env := by rfl) (hpl : (backTo pos (starEach es X.env)).any (·.1) = false := by rfl)
    (ht : eval (.Call (.Attribute o m apos) (e :: es) [] pos) X.env = (do
      let ov ← eval o X.env
      standAt apos.atName
      let (f, first) ← holding [ov] (getMethod ov m pl)
      callWith pos f first (backTo pos (starEach (e :: es) X.env)) (backToKw pos (keywordEach [] X.env))) := by rfl) :
    PE X (.Call (.Attribute o m apos) (e :: es) [] pos) (tMxS C m sp E ta t) := by
  obtain ⟨f, fd, ps, hc, hm, F, b⟩ := c.ex
  refine ⟨fun pins s σ H Q I h => ?_⟩
  refine PySem.W.methodCall_KW (pl := pl) (thn (he.run pins s σ H _ I h) fun u s1 ⟨x, H1, I1, rx, a, dx, fs, ex, ea, l, q⟩ => ?_) ht
  subst ex
  obtain rfl : u = Value.ref a := rx
  refine getmeth_ok I1 ea hc hm l ?_
  refine PySem.W.callWith_K (first := [.ref a]) (h₀ := X.base) I.ok.mod.kin hm.kp (thn (ha.run pos pins s1 σ H1 _ I1 q) fun us s2 ⟨vs, H2, I2, r, q2⟩ => ⟨I2.kIn, ?_⟩) hst hpl
  exact run_fnS (us := .ref a :: us) (vs := .ref a :: vs) F (hr.mono hk) b (hx σ) I2 (.cons rfl r) q2
theorem tMake_nil : tMake C sp [] E t = tMkx C sp E t := by
  funext σ H Q
  show (t σ H fun vs H1 => ∀ x dx, H1 x = none → H1 dx = none → dx ≠ x → sp (.ref x :: (vs ++ [])) (upd (upd H1 dx (.own x)) x (.ins C dx [])) (fun v H2 => v = .non ∧ Q (.ref x) H2) E) = _
  simp only [List.append_nil]
  rfl
theorem pe_mkx (c : MakX X.prog X.w X.K X.mg X.base k x C sp) (hr : Room j X.A) (hk : k + 1 ≤ j) (hg : Gl X x) (ha : PA X (e :: es) t)
    (hdb : (x == ("__debug__" : Str)) = false := by decide) (he : starEach (e :: es) X.env = (false, eval e X.env) :: starEach es X.env := by rfl) (hpl : (backTo pos (starEach es X.env)).any (·.1) = false := by rfl) :
    PE X (.Call (.Name x p) (e :: es) [] pos) (tMkx C sp E0 t) := by
  obtain ⟨f, fd, ps, M, F, hm, b⟩ := c.ex
  rw [← tMake_nil]
  exact pe_make M F (hr.mono hk) hg hm b .nil passL ha hdb he hpl
theorem pe_mkx0 (c : MakX X.prog X.w X.K X.mg X.base k x C sp) (hr : Room j X.A) (hk : k + 1 ≤ j) (hg : Gl X x)
    (hdb : (x == ("__debug__" : Str)) = false := by decide) : PE X (.Call (.Name x p) [] [] pos) (tMkx C sp E0 tNil) := by
  obtain ⟨f, fd, ps, M, F, hm, b⟩ := c.ex
  rw [← tMake_nil]
  exact pe_make0 M F (hr.mono hk) hg hm b .nil passL hdb
end
section
variable {P : Program} {w : World} {K : PySem.W.Frag} {mg : Str → Option Value} {base : Heap}
theorem calx {x : Str} {f : Addr} {fd : FuncData} {ps : List Str} {k : Nat} {sp : Sp} (F : FnOk P w K mg base (L2.CX P w) k f fd ps sp) (hm : mg x = some (.ref f)) (kp : PySem.W.keepIn K (.ref f) = true) (b : Binds K fd ps []) :
    CalX P w K mg base k x sp := ⟨f, fd, ps, F, hm, kp, b⟩
theorem metx {C f : Addr} {m : Str} {fd : FuncData} {ps : List Str} {k : Nat} {sp : Sp} (c : Cls K C) (me : Meth K C m f) (F : FnOk P w K mg base (L2.CX P w) k f fd ps sp) (b : Binds K fd ps []) : MetX P w K mg base k C m sp := ⟨f, fd, ps, c, me, F, b⟩
theorem makx {C f : Addr} {x : Str} {fd : FuncData} {ps : List Str} {k : Nat} {sp : Sp} (M : Mk K C f) (F : FnOk P w K mg base (L2.CX P w) k f fd ps sp) (hm : mg x = some (.ref C)) (b : Binds K fd ps []) : MakX P w K mg base k x C sp := ⟨f, fd, ps, M, F, hm, b⟩
end
/-! ### heaps: what stands -/
theorem sq_of {K : PySem.W.Frag} {H : Hp} {p : Addr} {xs : List V} (h : H p = some (.lst xs)) : SqL K H p xs := SqL.of h
theorem st_of {K : PySem.W.Frag} {H : Hp} {p : Addr} {xs : List V} (h : H p = some (.tup xs)) : SqT K H p xs := SqT.of h
theorem Same.seqT {K : PySem.W.Frag} {H H' : Hp} {a : Addr} {xs : List V} (e : Same H H') (h : SqT K H a xs) : SqT K H' a xs := by
  rcases h with (h | ⟨o, h⟩) | h
  · exact .inl (.inl (e _ _ h))
  · exact .inl (.inr ⟨o, e _ _ h⟩)
  · exact .inr h
theorem Same.nw {H : Hp} {p : Addr} {o : HO} (h : H p = none) : Same H (upd H p o) := fun b u e => by
  rw [upd_ne (ne_of_none e h)]
  exact e
/-- all but what stands at a is as it was -/
def But (a : Addr) (H H' : Hp) : Prop := ∀ b o, H b = some o → b ≠ a → H' b = some o
theorem But.refl (a : Addr) (H : Hp) : But a H H := fun _ _ h _ => h
theorem But.trans {a : Addr} {H H1 H2 : Hp} (x : But a H H1) (y : But a H1 H2) : But a H H2 := fun b o e n => y b o (x b o e n) n
theorem But.of {a : Addr} {H H' : Hp} (x : Same H H') : But a H H' := fun b o e _ => x b o e
theorem But.u1 {a : Addr} {H : Hp} {o : HO} : But a H (upd H a o) := fun b u e n => by
  rw [upd_ne n]
  exact e
theorem But.updA {a : Addr} {H H1 : Hp} {o : HO} (h : But a H H1) : But a H (upd H1 a o) := h.trans But.u1
theorem But.new {a p : Addr} {H H1 : Hp} {o : HO} (h : But a H H1) (n : H1 p = none) : But a H (upd H1 p o) := h.trans (But.of (Same.nw n))
theorem But.out {a p : Addr} {H H1 : Hp} {o : HO} (h : But a H H1) (n : H p = none) : But a H (upd H1 p o) := fun b u e q => by
  rw [upd_ne (ne_of_none e n)]
  exact h b u e q
theorem But.free {a p : Addr} {H H1 : Hp} {o : HO} (h : But a H H1) (ha : H1 a = some o) (n : H1 p = none) : H p = none := by
  cases q : H p with
  | none => rfl
  | some u =>
    rw [h p u q (ne_of_none ha n).symm] at n
    cases n
theorem Same.snoc {p : Addr} {H H1 : Hp} {o : HO} (h : Same H H1) (n : H1 p = none) : Same H (upd H1 p o) := h.trans (Same.nw n)
theorem Same.out {p : Addr} {H H1 : Hp} {o : HO} (h : Same H H1) (n : H p = none) : Same H (upd H1 p o) := fun b u e => by
  rw [upd_ne (ne_of_none e n)]
  exact h b u e
theorem Same.but {a : Addr} {H H1 H2 : Hp} (h : Same H H1) (n : H a = none) (b : But a H1 H2) : Same H H2 := fun c o e => b c o (h c o e) (ne_of_none e n)
theorem But.seq {K : PySem.W.Frag} {H H' : Hp} {a b : Addr} {xs : List V} (e : But a H H') (h : SqL K H b xs) (n : H b = none ∨ b ≠ a) : SqL K H' b xs := by
  rcases h with (h | ⟨o, h⟩) | h
  · rcases n with n | n
    · rw [n] at h; cases h
    · exact .inl (.inl (e _ _ h n))
  · rcases n with n | n
    · rw [n] at h; cases h
    · exact .inl (.inr ⟨o, e _ _ h n⟩)
  · exact .inr h
theorem Same.get {H H' : Hp} {p : Addr} {o : HO} (s : Same H H') (h : H p = some o) : H' p = some o := s p o h
theorem But.get {a : Addr} {H H' : Hp} {p : Addr} {o : HO} (s : But a H H') (h : H p = some o) (n : p ≠ a) : H' p = some o := s p o h n
theorem But.sameL {a : Addr} {H H1 H2 : Hp} (x : Same H H1) (y : But a H1 H2) : But a H H2 := (But.of x).trans y
theorem But.sameR {a : Addr} {H H1 H2 : Hp} (x : But a H H1) (y : Same H1 H2) : But a H H2 := x.trans (But.of y)
/-! ### built-in calls, their readings under a name -/
def rLen (K : PySem.W.Frag) : List V → Hp → VK → Prop := fun xs H Q => ∃ p ys, xs = [.ref p] ∧ (SqL K H p ys ∨ SqT K H p ys) ∧ Q (.int ys.length) H
def rLenS : List V → Hp → VK → Prop := fun xs H Q => ∃ z : Str, xs = [.str z] ∧ z.length ≤ sizeLine ∧ Q (.int z.length) H
def rInt1 : List V → Hp → VK → Prop := fun xs H Q => (∃ i, xs = [.int i] ∧ Q (.int i) H) ∨ ∃ k, xs = [.bl k] ∧ Q (.int (if k then 1 else 0)) H
def rLstOf (K : PySem.W.Frag) : List V → Hp → VK → Prop := fun xs H Q => ∃ p ys, xs = [.ref p] ∧ (SqL K H p ys ∨ SqT K H p ys) ∧ ∀ l, H l = none → Q (.ref l) (upd H l (.lst ys))
def rTupOf (K : PySem.W.Frag) : List V → Hp → VK → Prop := fun xs H Q => ∃ p ys, xs = [.ref p] ∧ ((SqL K H p ys ∧ ∀ l, H l = none → Q (.ref l) (upd H l (.tup ys))) ∨ (SqT K H p ys ∧ Q (.ref p) H))
section
variable {X : Cx}
theorem cr_len : CallR X (.builtin "len") (rLen X.K) := call_len_seq
theorem cr_lenS : CallR X (.builtin "len") rLenS := call_len_str
theorem cr_int1 : CallR X (.type "int") rInt1 := call_int1
theorem cr_list : CallR X (.type "list") (rLstOf X.K) := call_list_of
theorem cr_tuple : CallR X (.type "tuple") (rTupOf X.K) := call_tuple_of
end
/-! ### the reading, step by step -/
section
variable {σ : St} {H : Hp} {Q : VK} {D : Ends} {ta tb te : TE} {tt : TA} {t u : TS} {tc td : TT} {K : PySem.W.Frag}
theorem r_seq (h : t { D with nx := u D } σ H) : tSeq t u D σ H := h
theorem r_asg {g : TG} (h : te σ H fun x H1 => g x σ H1 D.nx) : tAsg te g D σ H := h
theorem r_gName {v : V} {i : Nat} {R : St → Hp → Prop} (h : R (σ.set i (some v)) H) : gName i v σ H R := h
theorem r_var {i : Nat} {v : V} (h : σ[i]? = some (some v)) (q : Q v H) : tVar i σ H Q := ⟨v, h, q⟩
theorem r_c {v : V} (q : Q v H) : tC v σ H Q := q
theorem r_op {r : R2} (h : ta σ H fun x H1 => tb σ H1 fun y H2 => r x y H2 Q) : tOp r ta tb σ H Q := h
theorem r_un {r : V → Hp → VK → Prop} (h : ta σ H fun x H1 => r x H1 Q) : tUn r ta σ H Q := h
theorem r_I0 {g : Int → Int → V} {i j : Int} (q : Q (g i j) H) : rI0 g (.int i) (.int j) H Q := ⟨i, j, rfl, rfl, q⟩
theorem r_I {C : Int → Int → Prop} {g : Int → Int → V} {i j : Int} (c : C i j) (q : Q (g i j) H) : rI C g (.int i) (.int j) H Q := ⟨i, j, rfl, rfl, c, q⟩
theorem r_U {g : Int → V} {i : Int} (q : Q (g i) H) : rU g (.int i) H Q := ⟨i, rfl, q⟩
theorem r_nil {R : List V → Hp → Prop} (q : R [] H) : tNil σ H R := q
theorem r_cons {R : List V → Hp → Prop} (h : te σ H fun x H1 => tt σ H1 fun xs H2 => R (x :: xs) H2) : tCons te tt σ H R := h
theorem r_cx {sp : Sp} {E : XK} (h : tt σ H fun vs H1 => sp vs H1 Q E) : tCx sp E tt σ H Q := h
theorem r_cxS {sp : Sp} {E : St → XK} (h : tt σ H fun vs H1 => sp vs H1 Q (E σ)) : tCallS sp E tt σ H Q := h
theorem r_cb {r : List V → Hp → VK → Prop} (h : tt σ H fun vs H1 => r vs H1 Q) : tCB r tt σ H Q := h
def kTup (Q : VK) (xs : List V) (H : Hp) : Prop := xs.length ≤ sizeLine ∧ ∀ p, H p = none → Q (.ref p) (upd H p (.tup xs))
def kLst (Q : VK) (xs : List V) (H : Hp) : Prop := xs.length ≤ sizeLine ∧ ∀ p, H p = none → Q (.ref p) (upd H p (.lst xs))
theorem r_tup (h : tt σ H fun xs H1 => kTup Q xs H1) : tTup tt σ H Q := h
theorem r_lst (h : tt σ H fun xs H1 => kLst Q xs H1) : tLst tt σ H Q := h
theorem r_kTup {xs : List V} (hl : xs.length ≤ 10000) (h : ∀ p H', H p = none → Same H H' → H' p = some (.tup xs) → Q (.ref p) H') : kTup Q xs H := ⟨Nat.le_trans hl (by decide), fun p hp => h p _ hp (Same.nw hp) upd_same⟩
theorem r_kLst {xs : List V} (hl : xs.length ≤ 10000) (h : ∀ p H', H p = none → Same H H' → H' p = some (.lst xs) → Q (.ref p) H') : kLst Q xs H := ⟨Nat.le_trans hl (by decide), fun p hp => h p _ hp (Same.nw hp) upd_same⟩
theorem r_ret (h : te σ H D.rt) : tRet te D σ H := h
theorem r_retN (h : D.rt .non H) : tRetN D σ H := h
theorem r_next (h : D.nx σ H) : tNext D σ H := h
theorem r_brk (h : D.bk σ H) : tBreak D σ H := h
theorem r_cont (h : D.ct σ H) : tCont D σ H := h
theorem r_drop (h : te σ H fun _ H1 => D.nx σ H1) : tDrop te D σ H := h
theorem r_ifS (h : tc σ H fun b H1 => if b = true then t D σ H1 else u D σ H1) : tIfS tc t u D σ H := h
theorem r_if {R : VK} (h : tc σ H fun b H1 => if b = true then ta σ H1 R else tb σ H1 R) : tIf tc ta tb σ H R := h
theorem r_par {i j : Nat} (h : tt σ H fun vs H1 => ∃ v w, vs = [v, w] ∧ D.nx ((σ.set i (some v)).set j (some w)) H1) : tPar i j tt D σ H := h
theorem r_two {v w : V} {R : V → V → Prop} (h : R v w) : ∃ a b, [v, w] = [a, b] ∧ R a b := ⟨v, w, rfl, h⟩
theorem r_augI {i : Nat} {f : Int → Int → Int} {a : Int} (h : σ[i]? = some (some (.int a))) (q : te σ H fun y H1 => ipI f (.int a) y H1 fun z H2 => D.nx (σ.set i (some z)) H2) : tAug i te (ipI f) D σ H := ⟨.int a, h, q⟩
theorem r_ipI {f : Int → Int → Int} {a b : Int} (q : Q (.int (f a b)) H) : ipI f (.int a) (.int b) H Q := ⟨a, b, rfl, rfl, q⟩
theorem CDiv.mk' {i j : Int} (a : 0 < j) (b : j < 1073741824) : CDiv i j := ⟨a, b⟩
theorem CMul.r {i j : Int} (a : -(2 ^ 64) < j) (b : j < 2 ^ 64) : CMul i j := .inr ⟨a, b⟩
theorem CMul.l {i j : Int} (a : -(2 ^ 64) < i) (b : i < 2 ^ 64) : CMul i j := .inl ⟨a, b⟩
theorem CPow.mk' {i j : Int} (a : 0 ≤ j) (b : j ≤ 1000000) (c : i.natAbs < 2 ^ 64) : CPow i j := ⟨a, b, c⟩
/-! tests -/
theorem r_test {R : Bool → Hp → Prop} (h : te σ H fun x H1 => ∃ k, x = .bl k ∧ R k H1) : tTest te σ H R := h
theorem r_tB {R : Bool → Hp → Prop} (h : te σ H fun x H1 => ∃ k, x = .bl k ∧ R k H1) : tB te σ H R := h
theorem r_bl {b : Bool} {R : Bool → Prop} (h : R b) : ∃ k, V.bl b = .bl k ∧ R k := ⟨b, rfl, h⟩
theorem r_and {R : Bool → Hp → Prop} (h : tc σ H fun c H1 => if c = true then td σ H1 R else R false H1) : tAnd tc td σ H R := h
theorem r_or {R : Bool → Hp → Prop} (h : tc σ H fun c H1 => if c = true then R true H1 else td σ H1 R) : tOr tc td σ H R := h
theorem r_not {R : Bool → Hp → Prop} (h : tc σ H fun c H1 => R (!c) H1) : tNot tc σ H R := h
theorem r_andV (h : ta σ H fun x H1 => ∃ c, x = .bl c ∧ if c = true then tb σ H1 Q else Q (.bl false) H1) : tAndV ta tb σ H Q := h
theorem r_orV (h : ta σ H fun x H1 => ∃ c, x = .bl c ∧ if c = true then Q (.bl true) H1 else tb σ H1 Q) : tOrV ta tb σ H Q := h
theorem r_notV (h : ta σ H fun x H1 => ∃ c, x = .bl c ∧ Q (.bl (!c)) H1) : tNotV ta σ H Q := h
theorem r_chain {r r' : R2} {tc : TE} (h : ta σ H fun x H1 => tb σ H1 fun y H2 => r x y H2 fun z H3 => ∃ k, z = .bl k ∧ (if k = true then tc σ H3 fun w' H4 => r' y w' H4 Q else Q (.bl false) H3)) : tChain r r' ta tb tc σ H Q := h
theorem dec_int (i j : Int) : decide (V.int i = V.int j) = decide (i = j) := by
  by_cases h : i = j
  · rw [decide_eq_true h, decide_eq_true (congrArg V.int h)]
  · rw [decide_eq_false h, decide_eq_false (fun q => h (V.int.inj q))]
theorem dec_bl (i j : Bool) : decide (V.bl i = V.bl j) = decide (i = j) := by
  by_cases h : i = j
  · rw [decide_eq_true h, decide_eq_true (congrArg V.bl h)]
  · rw [decide_eq_false h, decide_eq_false (fun q => h (V.bl.inj q))]
theorem dec_str (i j : Str) : decide (V.str i = V.str j) = decide (i = j) := by
  by_cases h : i = j
  · rw [decide_eq_true h, decide_eq_true (congrArg V.str h)]
  · rw [decide_eq_false h, decide_eq_false (fun q => h (V.str.inj q))]
theorem r_eqI {i j : Int} (h : Q (.bl (decide (i = j))) H) : rEq (.int i) (.int j) H Q := ⟨rfl, by rw [dec_int]; exact h⟩
theorem r_neI {i j : Int} (h : Q (.bl (!decide (i = j))) H) : rNe (.int i) (.int j) H Q := ⟨rfl, by rw [dec_int]; exact h⟩
theorem r_eqB {i j : Bool} (h : Q (.bl (decide (i = j))) H) : rEq (.bl i) (.bl j) H Q := ⟨rfl, by rw [dec_bl]; exact h⟩
theorem r_neB {i j : Bool} (h : Q (.bl (!decide (i = j))) H) : rNe (.bl i) (.bl j) H Q := ⟨rfl, by rw [dec_bl]; exact h⟩
theorem r_eqS {i j : Str} (h : Q (.bl (decide (i = j))) H) : rEq (.str i) (.str j) H Q := ⟨rfl, by rw [dec_str]; exact h⟩
theorem r_neS {i j : Str} (h : Q (.bl (!decide (i = j))) H) : rNe (.str i) (.str j) H Q := ⟨rfl, by rw [dec_str]; exact h⟩
theorem r_eqN {i : Int} (h : Q (.bl false) H) : rEq (.int i) .non H Q := ⟨rfl, h⟩
theorem r_eqNN (h : Q (.bl true) H) : rEq .non .non H Q := ⟨rfl, h⟩
theorem ite_dec {p : Prop} [Decidable p] {A B : Prop} (h1 : p → A) (h2 : ¬ p → B) : if decide p = true then A else B := by
  by_cases h : p
  · rw [decide_eq_true h]; exact iteT (h1 h)
  · rw [decide_eq_false h]; exact iteF (h2 h)
theorem ite_ndec {p : Prop} [Decidable p] {A B : Prop} (h1 : ¬ p → A) (h2 : p → B) : if (!decide p) = true then A else B := by
  by_cases h : p
  · rw [decide_eq_true h]; exact iteF (h2 h)
  · rw [decide_eq_false h]; exact iteT (h1 h)
theorem ite_b {b : Bool} {A B : Prop} (h1 : b = true → A) (h2 : b = false → B) : if b = true then A else B := by
  cases b with
  | true => exact iteT (h1 rfl)
  | false => exact iteF (h2 rfl)
theorem ite_nb {b : Bool} {A B : Prop} (h1 : b = false → A) (h2 : b = true → B) : if (!b) = true then A else B := by
  cases b with
  | true => exact iteF (h2 rfl)
  | false => exact iteT (h1 rfl)
theorem iteNT {A B : Prop} (h : B) : if (!true) = true then A else B := iteF h
theorem iteNF {A B : Prop} (h : A) : if (!false) = true then A else B := iteT h
theorem ite_nself {α : Type} [DecidableEq α] {x : α} {A B : Prop} (h : B) : if (!decide (x = x)) = true then A else B := ite_ndec (fun z => (z rfl).elim) fun _ => h
/-! places -/
theorem r_ixL {p : Addr} {xs : List V} {i : Int} {v : V} (h : SqL K H p xs) (ha : atI xs i = some v) (q : Q v H) : rIxL K (.ref p) (.int i) H Q := ⟨p, xs, i, v, rfl, rfl, h, ha, q⟩
theorem r_ixT {p : Addr} {xs : List V} {i : Int} {v : V} (h : SqT K H p xs) (ha : atI xs i = some v) (q : Q v H) : rIxT K (.ref p) (.int i) H Q := ⟨p, xs, i, v, rfl, rfl, h, ha, q⟩
theorem r_gSub {to ti : TE} {ts : TSet} {v : V} {R : St → Hp → Prop} (h : to σ H fun o H1 => ti σ H1 fun i H2 => ts o i v H2 fun H3 => R σ H3) : gSub to ti ts v σ H R := h
theorem r_setL {p : Addr} {xs : List V} {k : Int} {j : Nat} {v : V} {R : Hp → Prop} (h : H p = some (.lst xs)) (hj : ixN xs.length k = some j) (q : ∀ H', But p H H' → H' p = some (.lst (xs.set j v)) → R H') : rSetL (.ref p) (.int k) v H R := ⟨p, xs, k, j, rfl, rfl, h, hj, q _ But.u1 upd_same⟩
theorem r_fld {f : Str} (h : ta σ H fun x H1 => ∃ a C dx fs v, x = .ref a ∧ H1 a = some (.ins C dx fs) ∧ Cls K C ∧ NoAttr K C f ∧ fs.lookup f = some v ∧ Q v H1) : tFld K ta f σ H Q := h
/-! isinstance of built-in classes -/
theorem isi {x : V} {a b : String} {r : Bool} (ty : TyX K H x (.type a)) (e : kitB a b = some r) (q : Q (.bl r) H) : rIsi K [x, .ty b] H Q := ⟨x, .ty b, .type a, .type b, r, rfl, .ty b, ty, kit_ty e, q⟩
theorem isi_int_int {i : Int} (q : Q (.bl true) H) : rIsi K [.int i, .ty "int"] H Q := isi (.base (.int i)) (by decide +kernel) q
theorem isi_int_bool {i : Int} (q : Q (.bl false) H) : rIsi K [.int i, .ty "bool"] H Q := isi (.base (.int i)) (by decide +kernel) q
theorem isi_bl_int {i : Bool} (q : Q (.bl true) H) : rIsi K [.bl i, .ty "int"] H Q := isi (.base (.bl i)) (by decide +kernel) q
theorem isi_bl_bool {i : Bool} (q : Q (.bl true) H) : rIsi K [.bl i, .ty "bool"] H Q := isi (.base (.bl i)) (by decide +kernel) q
theorem isi_non_int (q : Q (.bl false) H) : rIsi K [.non, .ty "int"] H Q := isi (.base .non) (by decide +kernel) q
theorem isi_str_int {x : Str} (q : Q (.bl false) H) : rIsi K [.str x, .ty "int"] H Q := isi (.base (.str x)) (by decide +kernel) q
theorem isi_str_str {x : Str} (q : Q (.bl true) H) : rIsi K [.str x, .ty "str"] H Q := isi (.base (.str x)) (by decide +kernel) q
theorem isi_int_str {x : Int} (q : Q (.bl false) H) : rIsi K [.int x, .ty "str"] H Q := isi (.base (.int x)) (by decide +kernel) q
theorem isi_non_str (q : Q (.bl false) H) : rIsi K [.non, .ty "str"] H Q := isi (.base .non) (by decide +kernel) q
theorem isi_non_list (q : Q (.bl false) H) : rIsi K [.non, .ty "list"] H Q := isi (.base .non) (by decide +kernel) q
theorem isi_int_list {x : Int} (q : Q (.bl false) H) : rIsi K [.int x, .ty "list"] H Q := isi (.base (.int x)) (by decide +kernel) q
theorem isi_str_list {x : Str} (q : Q (.bl false) H) : rIsi K [.str x, .ty "list"] H Q := isi (.base (.str x)) (by decide +kernel) q
theorem isi_lst_list {p : Addr} {xs : List V} (h : H p = some (.lst xs)) (q : Q (.bl true) H) : rIsi K [.ref p, .ty "list"] H Q := isi (.base (.lst h)) (by decide +kernel) q
theorem isi_lst_int {p : Addr} {xs : List V} (h : H p = some (.lst xs)) (q : Q (.bl false) H) : rIsi K [.ref p, .ty "int"] H Q := isi (.base (.lst h)) (by decide +kernel) q
theorem isi_tup_list {p : Addr} {xs : List V} (h : H p = some (.tup xs)) (q : Q (.bl false) H) : rIsi K [.ref p, .ty "list"] H Q := isi (.base (.tup h)) (by decide +kernel) q
theorem isi_tup_int {p : Addr} {xs : List V} (h : H p = some (.tup xs)) (q : Q (.bl false) H) : rIsi K [.ref p, .ty "int"] H Q := isi (.base (.tup h)) (by decide +kernel) q
theorem isi_tup_tup {p : Addr} {xs : List V} (h : H p = some (.tup xs)) (q : Q (.bl true) H) : rIsi K [.ref p, .ty "tuple"] H Q := isi (.base (.tup h)) (by decide +kernel) q
theorem isi_lst_tup {p : Addr} {xs : List V} (h : H p = some (.lst xs)) (q : Q (.bl false) H) : rIsi K [.ref p, .ty "tuple"] H Q := isi (.base (.lst h)) (by decide +kernel) q
theorem isi_int_tup {i : Int} (q : Q (.bl false) H) : rIsi K [.int i, .ty "tuple"] H Q := isi (.base (.int i)) (by decide +kernel) q
/-! calls of built-ins by values -/
theorem r_ii {a b : Int} {R : Int → Int → Prop} (q : R a b) : ∃ i j, [V.int a, V.int b] = [V.int i, V.int j] ∧ R i j := ⟨a, b, rfl, q⟩
theorem r_i1 {a : Int} {R : Int → Prop} (q : R a) : ∃ i, [V.int a] = [V.int i] ∧ R i := ⟨a, rfl, q⟩
theorem r_lenL {p : Addr} {xs : List V} (h : SqL K H p xs) (q : Q (.int (xs.length : Int)) H) : rLen K [.ref p] H Q := ⟨p, xs, rfl, .inl h, q⟩
theorem r_lenT {p : Addr} {xs : List V} (h : SqT K H p xs) (q : Q (.int (xs.length : Int)) H) : rLen K [.ref p] H Q := ⟨p, xs, rfl, .inr h, q⟩
theorem r_lenS {z : Str} (h : z.length ≤ sizeLine) (q : Q (.int (z.length : Int)) H) : rLenS [.str z] H Q := ⟨z, rfl, h, q⟩
theorem r_intI {a : Int} (q : Q (.int a) H) : rInt1 [.int a] H Q := .inl ⟨a, rfl, q⟩
theorem r_intB {a : Bool} (q : Q (.int (if a then 1 else 0)) H) : rInt1 [.bl a] H Q := .inr ⟨a, rfl, q⟩
theorem r_listL {p : Addr} {xs : List V} (h : SqL K H p xs) (q : ∀ p H', H p = none → Same H H' → H' p = some (.lst xs) → Q (.ref p) H') : rLstOf K [.ref p] H Q := ⟨p, xs, rfl, .inl h, fun l hl => q l _ hl (Same.nw hl) upd_same⟩
theorem r_listT {p : Addr} {xs : List V} (h : SqT K H p xs) (q : ∀ p H', H p = none → Same H H' → H' p = some (.lst xs) → Q (.ref p) H') : rLstOf K [.ref p] H Q := ⟨p, xs, rfl, .inr h, fun l hl => q l _ hl (Same.nw hl) upd_same⟩
theorem r_tupL {p : Addr} {xs : List V} (h : SqL K H p xs) (q : ∀ p H', H p = none → Same H H' → H' p = some (.tup xs) → Q (.ref p) H') : rTupOf K [.ref p] H Q := ⟨p, xs, rfl, .inl ⟨h, fun l hl => q l _ hl (Same.nw hl) upd_same⟩⟩
theorem r_sum {p : Addr} {ns : List Int} (h : SqL K H p (ns.map V.int)) (q : Q (.int ns.sum) H) : rSum K [.ref p] H Q := ⟨p, ns, rfl, h, q⟩
/-! == of data -/
theorem r_eqD {x y : V} {d e : PyData} (hd : Dp K H x d) (he : Dp K H y e) (s1 : SeqAt.shaped d = true) (s2 : SeqAt.shaped e = true) (q : Q (.bl (PyData.eqv d e)) H) : rEqD K x y H Q := ⟨d, e, hd, he, s1, s2, q⟩
theorem r_neD {x y : V} {d e : PyData} (hd : Dp K H x d) (he : Dp K H y e) (s1 : SeqAt.shaped d = true) (s2 : SeqAt.shaped e = true) (q : Q (.bl (!PyData.eqv d e)) H) : rNeD K x y H Q := ⟨d, e, hd, he, s1, s2, q⟩
theorem dp_pair {a : Addr} {n t : Int} (h : SqT K H a [.int n, .int t]) : Dp K H (.ref a) (.tuple [.int n, .int t]) := .tup h (.cons (.int n) (.cons (.int t) .nil))
theorem sh_pair {n t : Int} : SeqAt.shaped (.tuple [.int n, .int t]) = true := by rfl
theorem eqv_pair {n t m u : Int} : PyData.eqv (.tuple [.int n, .int t]) (.tuple [.int m, .int u]) = decide (n = m ∧ t = u) := by
  rw [Bool.eq_iff_iff]
  simp [PyData.eqv, PyData.eqvAll]
theorem r_eqP {a b : Addr} {n t m u : Int} (h : SqT K H a [.int n, .int t]) (h' : SqT K H b [.int m, .int u]) (q : Q (.bl (decide (n = m ∧ t = u))) H) : rEqD K (.ref a) (.ref b) H Q :=
  r_eqD (dp_pair h) (dp_pair h') sh_pair sh_pair (by rw [eqv_pair]; exact q)
theorem r_neP {a b : Addr} {n t m u : Int} (h : SqT K H a [.int n, .int t]) (h' : SqT K H b [.int m, .int u]) (q : Q (.bl (!decide (n = m ∧ t = u))) H) : rNeD K (.ref a) (.ref b) H Q :=
  r_neD (dp_pair h) (dp_pair h') sh_pair sh_pair (by rw [eqv_pair]; exact q)
/-! loops -/
theorem r_while (W : Nat → St → Hp → Prop) (h0 : ∃ m, W m σ H) (hs : ∀ m σ H, W m σ H → tc σ H fun b H1 => if b = true then ∃ N : St → Hp → Prop, (∀ σ' H', N σ' H' → ∃ m', m' < m ∧ W m' σ' H') ∧ t { D with nx := N, ct := N, bk := D.nx } σ H1 else D.nx σ H1) : tWhile tc t D σ H := ⟨W, h0, hs⟩
theorem r_wbody {W : Nat → St → Hp → Prop} {m : Nat} {R : VK} {B : St → Hp → Prop} (h : t { nx := fun σ' H' => ∃ m', m' < m ∧ W m' σ' H', ct := fun σ' H' => ∃ m', m' < m ∧ W m' σ' H', rt := R, bk := B } σ H) :
    ∃ N : St → Hp → Prop, (∀ σ' H', N σ' H' → ∃ m', m' < m ∧ W m' σ' H') ∧ t { nx := N, rt := R, bk := B, ct := N } σ H := ⟨_, fun _ _ z => z, h⟩
theorem r_for {wi : TI} {g : TG} (h : wi σ H fun J H1 => ∃ W : Nat → Nat → St → Hp → Prop, (∃ m, W 0 m σ H1) ∧ ∀ i m σ H, W i m σ H →
    (J.stop i H ∧ D.nx σ H) ∨ (J.go i H ∧ ∃ N : St → Hp → Prop, (∀ σ' H', N σ' H' → ∃ m', m' < m ∧ W (i + 1) m' σ' H') ∧ ∀ x H', J.yld i H x H' → g x σ H' fun σ2 H2 => t { D with nx := N, ct := N, bk := D.nx } σ2 H2)) : tFor wi g t D σ H := h
theorem r_rng1 {R : It → Hp → Prop} (h : tt σ H fun vs H1 => ∃ j : Int, vs = [.int j] ∧ -(2 ^ 62) ≤ j ∧ j < 2 ^ 62 ∧ R (Itr 0 j.toNat) H1) : iRng1 tt σ H R := h
theorem r_forRng {g : TG} {NX : St → Hp → Prop} {RT : VK} {lo : Int} {n : Nat} (Pv : Nat → St → Hp → Prop) (h0 : Pv 0 σ H)
    (hs : ∀ i σ H, i < n → Pv i σ H → g (.int (lo + i)) σ H fun σ2 H2 => t { nx := Pv (i + 1), rt := RT, bk := NX, ct := Pv (i + 1) } σ2 H2) (hd : ∀ σ H, Pv n σ H → NX σ H) :
    ∃ W : Nat → Nat → St → Hp → Prop, (∃ m, W 0 m σ H) ∧ ∀ i m σ H, W i m σ H → ((Itr lo n).stop i H ∧ NX σ H) ∨ ((Itr lo n).go i H ∧ ∃ N : St → Hp → Prop, (∀ σ' H', N σ' H' → ∃ m', m' < m ∧ W (i + 1) m' σ' H') ∧
      ∀ x H', (Itr lo n).yld i H x H' → g x σ H' fun σ2 H2 => t { nx := N, rt := RT, bk := NX, ct := N } σ2 H2) := for_range (D := { nx := NX, rt := RT }) Pv h0 hs hd
theorem r_forLst {g : TG} {NX : St → Hp → Prop} {RT : VK} {a : Addr} {xs : List V} (Pv : Nat → St → Hp → Prop) (h0 : Pv 0 σ H) (hl : ∀ i σ H, i ≤ xs.length → Pv i σ H → SqL K H a xs)
    (hs : ∀ i x σ H, xs[i]? = some x → Pv i σ H → g x σ H fun σ2 H2 => t { nx := Pv (i + 1), rt := RT, bk := NX, ct := Pv (i + 1) } σ2 H2) (hd : ∀ σ H, Pv xs.length σ H → NX σ H) :
    ∃ W : Nat → Nat → St → Hp → Prop, (∃ m, W 0 m σ H) ∧ ∀ i m σ H, W i m σ H → ((Itl K a).stop i H ∧ NX σ H) ∨ ((Itl K a).go i H ∧ ∃ N : St → Hp → Prop, (∀ σ' H', N σ' H' → ∃ m', m' < m ∧ W (i + 1) m' σ' H') ∧
      ∀ x H', (Itl K a).yld i H x H' → g x σ H' fun σ2 H2 => t { nx := N, rt := RT, bk := NX, ct := N } σ2 H2) := for_list (D := { nx := NX, rt := RT }) Pv h0 hl hs hd
theorem r_forTup {g : TG} {NX : St → Hp → Prop} {RT : VK} {a : Addr} {xs : List V} (Pv : Nat → St → Hp → Prop) (h0 : Pv 0 σ H) (hl : ∀ i σ H, i ≤ xs.length → Pv i σ H → SqT K H a xs)
    (hs : ∀ i x σ H, xs[i]? = some x → Pv i σ H → g x σ H fun σ2 H2 => t { nx := Pv (i + 1), rt := RT, bk := NX, ct := Pv (i + 1) } σ2 H2) (hd : ∀ σ H, Pv xs.length σ H → NX σ H) :
    ∃ W : Nat → Nat → St → Hp → Prop, (∃ m, W 0 m σ H) ∧ ∀ i m σ H, W i m σ H → ((Itt K a).stop i H ∧ NX σ H) ∨ ((Itt K a).go i H ∧ ∃ N : St → Hp → Prop, (∀ σ' H', N σ' H' → ∃ m', m' < m ∧ W (i + 1) m' σ' H') ∧
      ∀ x H', (Itt K a).yld i H x H' → g x σ H' fun σ2 H2 => t { nx := N, rt := RT, bk := NX, ct := N } σ2 H2) := for_tup (D := { nx := NX, rt := RT }) Pv h0 hl hs hd
theorem r_iL {te : TE} {R : It → Hp → Prop} (h : te σ H fun x H1 => ∃ a, x = .ref a ∧ (∃ xs, SqL K H1 a xs) ∧ R (Itl K a) H1) : iList K te σ H R := h
theorem r_iT {te : TE} {R : It → Hp → Prop} (h : te σ H fun x H1 => ∃ a, x = .ref a ∧ (∃ xs, SqT K H1 a xs) ∧ R (Itt K a) H1) : iTup K te σ H R := h
theorem r_iL2 {a : Addr} {xs : List V} {R : It → Prop} (h : SqL K H a xs) (q : R (Itl K a)) : ∃ b, V.ref a = .ref b ∧ (∃ xs, SqL K H b xs) ∧ R (Itl K b) := ⟨a, rfl, ⟨xs, h⟩, q⟩
theorem r_iT2 {a : Addr} {xs : List V} {R : It → Prop} (h : SqT K H a xs) (q : R (Itt K a)) : ∃ b, V.ref a = .ref b ∧ (∃ xs, SqT K H b xs) ∧ R (Itt K b) := ⟨a, rfl, ⟨xs, h⟩, q⟩
end
theorem at0 {α : Type} {x : α} {r : List α} : atI (x :: r) 0 = some x := atI_nat (xs := x :: r) (j := 0) rfl
theorem at1 {α : Type} {x y : α} {r : List α} : atI (x :: y :: r) 1 = some y := atI_nat (xs := x :: y :: r) (j := 1) rfl
theorem at2 {α : Type} {x y z : α} {r : List α} : atI (x :: y :: z :: r) 2 = some z := atI_nat (xs := x :: y :: z :: r) (j := 2) rfl
theorem at3 {α : Type} {x y z u : α} {r : List α} : atI (x :: y :: z :: u :: r) 3 = some u := atI_nat (xs := x :: y :: z :: u :: r) (j := 3) rfl
theorem at4 {α : Type} {x y z u v : α} {r : List α} : atI (x :: y :: z :: u :: v :: r) 4 = some v := atI_nat (xs := x :: y :: z :: u :: v :: r) (j := 4) rfl
theorem at5 {α : Type} {x y z u v w : α} {r : List α} : atI (x :: y :: z :: u :: v :: w :: r) 5 = some w := atI_nat (xs := x :: y :: z :: u :: v :: w :: r) (j := 5) rfl
end Du

set_option Elab.async false
set_option maxRecDepth 100000
set_option maxHeartbeats 4000000
set_option linter.all false
namespace K51
open PySem L2 Du
/-! ### own steps (local rows over a tactic name of the library). Each heap has one row Same or But that says from which it came. -/
local macro_rules | `(tactic| walk_at "ne") => `(tactic| first
  | assumption
  | (refine Ne.symm ?_; assumption)
  | (refine' ne_of_none ?h1 ?h2; (case h2 => assumption); (case h1 => walk_at "hp"); done)
  | (refine' Ne.symm (ne_of_none ?h1 ?h2); (case h2 => assumption); (case h1 => walk_at "hp"); done))
local macro_rules | `(tactic| walk_at "hp") => `(tactic| first
  | assumption
  | exact upd_same
  | (refine' Same.get ?h1 ?h2; (case h1 => assumption); (case h2 => walk_at "hp"); done)
  | (refine' But.get ?h1 ?h2 ?h3; (case h1 => assumption); (case h3 => walk_at "ne"); (case h2 => walk_at "hp"); done))
local macro_rules | `(tactic| walk_at "same") => `(tactic| first
  | exact Same.refl _
  | assumption
  | (refine' Same.trans ?h1 ?h2; (case h2 => assumption); (case h1 => walk_at "same"); done)
  | (refine' Same.but ?h1 ?h3 ?h2; (case h2 => assumption); (case h1 => walk_at "same"); (case h3 => walk_at "free"); done))
local macro_rules | `(tactic| walk_at "but") => `(tactic| first
  | exact But.refl _ _
  | assumption
  | (refine' But.sameR ?h1 ?h2; (case h2 => assumption); (case h1 => walk_at "but"); done)
  | (refine' But.trans ?h1 ?h2; (case h2 => assumption); (case h1 => walk_at "but"); done))
local macro_rules | `(tactic| walk_at "free") => `(tactic| first
  | assumption
  | (refine' Same.free ?h1 ?h2; (case h2 => assumption); (case h1 => walk_at "same"); done)
  | (refine' But.free ?h1 ?h3 ?h2; (case h2 => assumption); (case h1 => walk_at "but"); (case h3 => walk_at "hp"); done))
local macro_rules | `(tactic| walk_at "sq") => `(tactic| first
  | assumption
  | (apply sq_of; (walk_at "hp"); done)
  | (apply st_of; (walk_at "hp"); done)
  | (refine' Same.seq ?h1 ?h2; (case h2 => assumption); (case h1 => walk_at "same"); done)
  | (refine' Same.seqT ?h1 ?h2; (case h2 => assumption); (case h1 => walk_at "same"); done))
local macro_rules | `(tactic| walk_at "at") => `(tactic| first | exact at0 | exact at1 | exact at2 | exact at3 | exact at4 | exact at5 | exact atI_nat (by assumption) | assumption)
local macro_rules | `(tactic| walk_at "side") => `(tactic| first
  | (show (0 : Int) < _; first | decide | assumption | omega)
  | (show (0 : Int) ≤ _; first | decide | assumption | omega)
  | exact CDiv.mk' (by decide) (by decide)
  | exact CMul.r (by decide) (by decide)
  | exact CMul.l (by decide) (by decide)
  | exact CPow.mk' (by decide) (by decide) (by decide)
  | exact CDiv.mk' (by omega) (by omega)
  | exact CMul.r (by omega) (by omega)
  | exact CMul.l (by omega) (by omega)
  | exact CPow.mk' (by omega) (by omega) (by omega))
local macro_rules | `(tactic| walk_at "s1") => `(tactic| first
  | with_reducible refine r_seq ?_
  | with_reducible refine r_asg ?_
  | with_reducible refine r_gName ?_
  | ((with_reducible refine' r_var ?hv ?_); (case hv => exact rfl))
  | with_reducible refine r_c ?_
  | with_reducible refine r_op ?_
  | with_reducible refine r_I0 ?_
  | ((with_reducible refine' r_I ?hc ?_); (case hc => (walk_at "side")))
  | with_reducible refine r_ii ?_
  | with_reducible refine r_i1 ?_
  | with_reducible refine r_intI ?_
  | with_reducible refine r_intB ?_
  | ((with_reducible refine' r_lenL ?h1 ?_); (case h1 => (walk_at "sq")))
  | ((with_reducible refine' r_lenT ?h1 ?_); (case h1 => (walk_at "sq")))
  | ((with_reducible refine' r_listL ?h1 ?_); (case h1 => (walk_at "sq")); (intro p H' hp hS hv))
  | ((with_reducible refine' r_listT ?h1 ?_); (case h1 => (walk_at "sq")); (intro p H' hp hS hv))
  | ((with_reducible refine' r_tupL ?h1 ?_); (case h1 => (walk_at "sq")); (intro p H' hp hS hv))
  | ((with_reducible refine' r_sum ?h1 ?_); (case h1 => (walk_at "sq")))
  | with_reducible refine isi_int_int ?_
  | with_reducible refine isi_int_bool ?_
  | with_reducible refine isi_bl_int ?_
  | with_reducible refine isi_bl_bool ?_
  | ((with_reducible refine' isi_tup_tup ?h1 ?_); (case h1 => (walk_at "hp")))
  | ((with_reducible refine' isi_lst_list ?h1 ?_); (case h1 => (walk_at "hp")))
  | ((with_reducible refine' r_eqP ?h1 ?h2 ?_); (case h1 => (walk_at "sq")); (case h2 => (walk_at "sq")))
  | ((with_reducible refine' r_neP ?h1 ?h2 ?_); (case h1 => (walk_at "sq")); (case h2 => (walk_at "sq")))
  | with_reducible refine iteF ?_
  | with_reducible refine iteNT ?_
  | with_reducible refine iteNF ?_
  | with_reducible refine iteT ?_
  | with_reducible refine r_cons ?_
  | with_reducible refine r_nil ?_
  | with_reducible refine r_cx ?_
  | with_reducible refine r_cb ?_
  | with_reducible refine r_tup ?_
  | with_reducible refine r_lst ?_
  | ((with_reducible refine r_kTup ?_ ?_); (exact Nat.le_of_ble_eq_true rfl); (intro p H' hp hS hv))
  | ((with_reducible refine r_kLst ?_ ?_); (exact Nat.le_of_ble_eq_true rfl); (intro p H' hp hS hv))
  | with_reducible refine r_ret ?_
  | with_reducible refine r_retN ?_
  | with_reducible refine r_next ?_
  | with_reducible refine r_cont ?_
  | with_reducible refine r_brk ?_
  | with_reducible refine r_drop ?_
  | with_reducible refine r_ifS ?_
  | with_reducible refine r_if ?_
  | with_reducible refine r_par ?_
  | with_reducible refine r_two ?_
  | with_reducible refine r_test ?_
  | with_reducible refine r_tB ?_
  | with_reducible refine r_bl ?_
  | with_reducible refine r_and ?_
  | with_reducible refine r_or ?_
  | with_reducible refine r_not ?_
  | with_reducible refine r_andV ?_
  | with_reducible refine r_orV ?_
  | with_reducible refine r_notV ?_
  | with_reducible refine r_chain ?_
  | with_reducible refine r_eqI ?_
  | with_reducible refine r_neI ?_
  | with_reducible refine r_eqB ?_
  | with_reducible refine r_neB ?_
  | with_reducible refine r_eqS ?_
  | with_reducible refine r_neS ?_
  | with_reducible refine r_eqN ?_
  | with_reducible refine r_eqNN ?_
  | with_reducible refine r_un ?_
  | with_reducible refine r_U ?_
  | with_reducible refine r_ipI ?_
  | with_reducible refine r_for ?_
  | with_reducible refine r_rng1 ?_
  | with_reducible refine r_iL ?_
  | with_reducible refine r_iT ?_
  | ((with_reducible refine' r_iL2 ?h1 ?_); (case h1 => (walk_at "sq")))
  | ((with_reducible refine' r_iT2 ?h1 ?_); (case h1 => (walk_at "sq")))
  | with_reducible refine r_fld ?_
  | with_reducible refine r_gSub ?_
  | ((with_reducible refine' r_augI ?hv ?_); (case hv => exact rfl))
  | ((with_reducible refine' r_ixL ?h1 ?h2 ?_); (case h1 => (walk_at "sq")); (case h2 => (walk_at "at")))
  | ((with_reducible refine' r_ixT ?h1 ?h2 ?_); (case h1 => (walk_at "sq")); (case h2 => (walk_at "at")))
  | ((with_reducible refine' r_setL ?h1 ?h2 ?_); (case h1 => (walk_at "hp")); (case h2 => first | exact rfl | assumption); (intro H' hB hv))
  | dsimp only [List.set_cons_zero, List.set_cons_succ])
local macro_rules | `(tactic| walk_at "st") => `(tactic| (simp only [L2.start, List.map_cons, List.map_nil, List.length_cons, List.length_nil, Nat.zero_add, Nat.reduceAdd, Nat.reduceSub, List.reduceReplicate, List.cons_append, List.nil_append, List.append_nil]; (walk_at "s")))
local macro_rules | `(tactic| walk_at "s") => `(tactic| repeat (walk_at "s1"))
local macro_rules | `(tactic| walk_at "len") => `(tactic| (intro h; repeat (first | (obtain ⟨h0, _⟩ := h; subst h0; exact rfl) | obtain ⟨_, h⟩ := h)))

/-! ### the text by places -/
def top (i : Nat) : Stmt := PySem.Challenge.pw_duelsum_k51_fractions.main.body.getD i (.Pass ⟨0, 0, 0, 0⟩)
abbrev s_lowest : Stmt := top 1
abbrev s_grown : Stmt := top 2
abbrev s_added : Stmt := top 3
abbrev s_minus : Stmt := top 4
abbrev s_is_less : Stmt := top 5
abbrev s_l_next : Stmt := top 7
abbrev s_l_state : Stmt := top 9
abbrev s_l_whole : Stmt := top 12
abbrev s_l_low : Stmt := top 13
abbrev s_l_as : Stmt := top 14
abbrev s_l_fraction : Stmt := top 15
abbrev s_l_told : Stmt := top 16
abbrev s_law : Stmt := top 17
theorem sc_lowest : FnScope ["number", "twos"] ["number", "twos"] (defScope s_lowest) := ⟨rfl, rfl, rfl, by decide +kernel, rfl, by decide +kernel, by decide +kernel⟩
theorem sc_grown : FnScope ["fraction", "twos"] ["fraction", "twos"] (defScope s_grown) := ⟨rfl, rfl, rfl, by decide +kernel, rfl, by decide +kernel, by decide +kernel⟩
theorem sc_added : FnScope ["one", "other", "twos"] ["one", "other"] (defScope s_added) := ⟨rfl, rfl, rfl, by decide +kernel, rfl, by decide +kernel, by decide +kernel⟩
theorem sc_minus : FnScope ["one"] ["one"] (defScope s_minus) := ⟨rfl, rfl, rfl, by decide +kernel, rfl, by decide +kernel, by decide +kernel⟩
theorem sc_is_less : FnScope ["one", "other", "twos"] ["one", "other"] (defScope s_is_less) := ⟨rfl, rfl, rfl, by decide +kernel, rfl, by decide +kernel, by decide +kernel⟩
theorem sc_l_next : FnScope ["_law_state_here", "_law_many"] ["_law_state_here", "_law_many"] (defScope s_l_next) := ⟨rfl, rfl, rfl, by decide +kernel, rfl, by decide +kernel, by decide +kernel⟩
theorem sc_l_state : FnScope ["_law_cell_here", "_law_k", "_law_mixed"] ["_law_cell_here", "_law_k"] (defScope s_l_state) := ⟨rfl, rfl, rfl, by decide +kernel, rfl, by decide +kernel, by decide +kernel⟩
theorem sc_l_whole : FnScope ["_law_found"] ["_law_found"] (defScope s_l_whole) := ⟨rfl, rfl, rfl, by decide +kernel, rfl, by decide +kernel, by decide +kernel⟩
theorem sc_l_low : FnScope ["_law_number", "_law_twos"] ["_law_number", "_law_twos"] (defScope s_l_low) := ⟨rfl, rfl, rfl, by decide +kernel, rfl, by decide +kernel, by decide +kernel⟩
theorem sc_l_as : FnScope ["_law_fraction_here", "_law_twos", "_law_number", "_law_k"] ["_law_fraction_here", "_law_twos"] (defScope s_l_as) := ⟨rfl, rfl, rfl, by decide +kernel, rfl, by decide +kernel, by decide +kernel⟩
theorem sc_l_fraction : FnScope ["_law_state_here", "_law_way", "_law_twos"] ["_law_state_here"] (defScope s_l_fraction) := ⟨rfl, rfl, rfl, by decide +kernel, rfl, by decide +kernel, by decide +kernel⟩
theorem sc_l_told : FnScope ["_law_found", "_law_due"] ["_law_found", "_law_due"] (defScope s_l_told) := ⟨rfl, rfl, rfl, by decide +kernel, rfl, by decide +kernel, by decide +kernel⟩
theorem sc_law : FnScope ["_law_script", "_law_k", "_law_state_here", "_law_one", "_law_other", "_law_twos", "_law_first", "_law_second", "_law_found", "_law_number", "_law_more", "_law_shift", "_law_j"] ["_law_script"] (defScope s_law) := ⟨rfl, rfl, rfl, by decide +kernel, rfl, by decide +kernel, by decide +kernel⟩
/-! ### mirror -/
def lowL (n : Int) : Nat → Int × Nat
  | 0 => (n, 0)
  | t + 1 => if n % 2 = 0 then lowL (n / 2) t else (n, t + 1)
theorem lowL_le : ∀ (t : Nat) (n b : Int), -b ≤ n → n ≤ b → (lowL n t).2 ≤ t ∧ -b ≤ (lowL n t).1 ∧ (lowL n t).1 ≤ b
  | 0, n, b, h1, h2 => ⟨Nat.le_refl _, h1, h2⟩
  | t + 1, n, b, h1, h2 => by
    unfold lowL
    by_cases h : n % 2 = 0
    · rw [if_pos h]
      obtain ⟨a, b, c⟩ := lowL_le t (n / 2) b (by omega) (by omega)
      exact ⟨by omega, b, c⟩
    · rw [if_neg h]
      exact ⟨Nat.le_refl _, h1, h2⟩
def nxt (s : Int) : Int := (s * 48271 + 11) % 2147483647
theorem max_cast (a b : Nat) : (if (b : Int) > (a : Int) then (b : Int) else (a : Int)) = ((max a b : Nat) : Int) := by
  by_cases h : (b : Int) > (a : Int)
  · rw [if_pos h, Nat.max_eq_right (by omega)]
  · rw [if_neg h, Nat.max_eq_left (by omega)]
/-- by so many twos -/
def gr (n : Int) (t T : Nat) : Int := n * 2 ^ (T - t)
theorem gr_cast (n : Int) (t T : Nat) (h : t ≤ T) : n * 2 ^ ((T : Int) - (t : Int)).toNat = gr n t T := by
  unfold gr
  rw [show ((T : Int) - (t : Int)).toNat = T - t by omega]
def FrAt (K : PySem.W.Frag) (H : Hp) (a : Addr) (n : Int) (t : Nat) : Prop := SqT K H a [.int n, .int (t : Int)]
/-! ### promises -/
def spLow : Sp := fun vs H Q _ => ∃ (n : Int) (t : Nat), vs = [.int n, .int (t : Int)] ∧ ∀ p H', H p = none → Same H H' → H' p = some (.tup [.int (lowL n t).1, .int ((lowL n t).2 : Int)]) → Q (.ref p) H'
def spGrown (K : PySem.W.Frag) : Sp := fun vs H Q _ => ∃ (a : Addr) (n : Int) (t T : Nat), vs = [.ref a, .int (T : Int)] ∧ FrAt K H a n t ∧ t ≤ T ∧ T ≤ 1000 ∧ (-20000000 ≤ n ∧ n ≤ 20000000) ∧ Q (.int (gr n t T)) H
def spAdded (K : PySem.W.Frag) : Sp := fun vs H Q _ => ∃ (a b : Addr) (n : Int) (t : Nat) (m : Int) (u : Nat), vs = [.ref a, .ref b] ∧ FrAt K H a n t ∧ FrAt K H b m u ∧ t ≤ 1000 ∧ u ≤ 1000 ∧ (-20000000 ≤ n ∧ n ≤ 20000000) ∧ (-20000000 ≤ m ∧ m ≤ 20000000) ∧
  ∀ p H', H p = none → Same H H' → H' p = some (.tup [.int (lowL (gr n t (max t u) + gr m u (max t u)) (max t u)).1, .int ((lowL (gr n t (max t u) + gr m u (max t u)) (max t u)).2 : Int)]) → Q (.ref p) H'
def spMinus (K : PySem.W.Frag) : Sp := fun vs H Q _ => ∃ (a : Addr) (n : Int) (t : Nat), vs = [.ref a] ∧ FrAt K H a n t ∧ ∀ p H', H p = none → Same H H' → H' p = some (.tup [.int (-n), .int (t : Int)]) → Q (.ref p) H'
def spLess (K : PySem.W.Frag) : Sp := fun vs H Q _ => ∃ (a b : Addr) (n : Int) (t : Nat) (m : Int) (u : Nat), vs = [.ref a, .ref b] ∧ FrAt K H a n t ∧ FrAt K H b m u ∧ t ≤ 1000 ∧ u ≤ 1000 ∧ (-20000000 ≤ n ∧ n ≤ 20000000) ∧ (-20000000 ≤ m ∧ m ≤ 20000000) ∧
  Q (.bl (decide (gr n t (max t u) < gr m u (max t u)))) H
def spNext : Sp := fun vs H Q _ => ∃ (a : Addr) (s m : Int), vs = [.ref a, .int m] ∧ H a = some (.lst [.int s]) ∧ 0 < m ∧ ∀ H', But a H H' → H' a = some (.lst [.int (nxt s)]) → Q (.int (nxt s / 7 % m)) H'
def spState : Sp := fun vs H Q _ => ∃ (c k : Int), vs = [.int c, .int k] ∧ ∀ (p : Addr) (s : Int) (H' : Hp), H p = none → Same H H' → H' p = some (.lst [.int s]) → Q (.ref p) H'
def spWhole : Sp := fun vs H Q _ => ∃ (i : Int), vs = [.int i] ∧ Q (.bl true) H
def spAs (K : PySem.W.Frag) : Sp := fun vs H Q _ => ∃ (a : Addr) (n : Int) (t T : Nat), vs = [.ref a, .int (T : Int)] ∧ FrAt K H a n t ∧ t ≤ T ∧ T ≤ 1000 ∧ Q (.int (gr n t T)) H
def spFrac : Sp := fun vs H Q _ => ∃ (a : Addr) (s : Int), vs = [.ref a] ∧ H a = some (.lst [.int s]) ∧
  ∀ (H' : Hp) (p : Addr) (n : Int) (t : Nat) (s' : Int), But a H H' → H' a = some (.lst [.int s']) → H p = none → H' p = some (.tup [.int n, .int (t : Int)]) → t ≤ 20 → -10000000 ≤ n → n ≤ 10000000 → Q (.ref p) H'
def spTold : Sp := fun vs H Q _ => ∃ (a b : Addr) (n : Int) (t : Nat), vs = [.ref a, .ref b] ∧ H a = some (.tup [.int n, .int (t : Int)]) ∧ H b = some (.tup [.int n, .int (t : Int)]) ∧ Q (.bl true) H
def spLaw (K : PySem.W.Frag) : Sp := fun vs H Q _ => ∃ (a : Addr) (ns : List Int), vs = [.ref a] ∧ SqL K H a (ns.map V.int) ∧ ns.length ≤ 63 ∧ ∀ H', Q (.bl true) H'
structure Cs where
structure Txt (K : PySem.W.Frag) (mg : Str → Option Value) (C : Cs) : Prop where
  b_bool : mg "bool" = none
  b_int : mg "int" = none
  b_isinstance : mg "isinstance" = none
  b_len : mg "len" = none
  b_max : mg "max" = none
  b_range : mg "range" = none
  b_tuple : mg "tuple" = none
section
variable {P : Program} {w : World} {K : PySem.W.Frag} {mg : Str → Option Value} {base : Heap} {C : Cs}
theorem ok_lowest {f : Addr} {fd : FuncData} (F : Fun K "lowest" "lowest" s_lowest f fd) (T : Txt K mg C)  : FnOk P w K mg base (L2.CX P w) 1 f fd ["number", "twos"] spLow := by
  refine F.okX sc_lowest (fun vs H Q E => by walk_at "len") (fun cdv A outer s H vs Q E hr h => ?_)
  obtain ⟨n, t, rfl, k⟩ := h
  refine ⟨_, (pss_cons (ps_while (passes_of rfl) (PW.pt (pw_and (pt_cmpR op_gt (pv 1) pe_int (nomark _)) (pw_and1 (pt_cmpR op_eq (pe_op op_mod (pv 0) pe_int) pe_int (nomark _)))))
        (pss_cons (ps_set (i := 0) sc_lowest.nd rfl (Or.inl rfl) (pe_op op_fdiv (pv 0) pe_int))
        (pss_one (ps_aug (i := 1) sc_lowest.nd rfl (Or.inl rfl) pe_int ip_sub))))
      (pss_one (ps_ret (pe_tup (pa_cons (pv 0) (pa_cons (pv 1) pa_nil)))))), ?_⟩
  walk_at "st"
  refine r_while (fun m σ H' => ∃ n' : Int, σ = [some (.int n'), some (.int (m : Int))] ∧ H' = H ∧ lowL n' m = lowL n t) ⟨t, n, rfl, rfl, rfl⟩ ?_
  rintro m σ H' ⟨n', rfl, rfl, e⟩
  walk_at "s"
  refine ite_dec (fun h0 => ?_) (fun h0 => ?_)
  · obtain ⟨m, rfl⟩ : ∃ z, m = z + 1 := ⟨m - 1, by omega⟩
    have e2 : ((m + 1 : Nat) : Int) - 1 = (m : Int) := by omega
    walk_at "s"
    refine ite_dec (fun h1 => ?_) (fun h1 => ?_)
    · refine r_wbody ?_
      walk_at "s"
      rw [e2]
      exact ⟨m, Nat.lt_succ_self m, _, rfl, rfl, by rw [← e]; exact (if_pos h1).symm⟩
    · walk_at "s"
      rw [← e, show lowL n' (m + 1) = (n', m + 1) from if_neg h1] at k
      exact k _ _ (by assumption) (by assumption) (by assumption)
  · obtain rfl : m = 0 := by omega
    walk_at "s"
    rw [← e] at k
    exact k _ _ (by assumption) (by assumption) (by assumption)
theorem ok_l_low {f : Addr} {fd : FuncData} (F : Fun K "_law_low" "_law_low" s_l_low f fd) (T : Txt K mg C)  : FnOk P w K mg base (L2.CX P w) 1 f fd ["_law_number", "_law_twos"] spLow := by
  refine F.okX sc_l_low (fun vs H Q E => by walk_at "len") (fun cdv A outer s H vs Q E hr h => ?_)
  obtain ⟨n, t, rfl, k⟩ := h
  refine ⟨_, (pss_cons (ps_while (passes_of rfl) (PW.pt (pw_and (pt_cmpR op_gt (pv 1) pe_int (nomark _)) (pw_and1 (pt_cmpR op_eq (pe_op op_mod (pv 0) pe_int) pe_int (nomark _)))))
        (pss_cons (ps_set (i := 0) sc_l_low.nd rfl (Or.inl rfl) (pe_op op_fdiv (pv 0) pe_int))
        (pss_one (ps_set (i := 1) sc_l_low.nd rfl (Or.inl rfl) (pe_op op_sub (pv 1) pe_int)))))
      (pss_one (ps_ret (pe_tup (pa_cons (pv 0) (pa_cons (pv 1) pa_nil)))))), ?_⟩
  walk_at "st"
  refine r_while (fun m σ H' => ∃ n' : Int, σ = [some (.int n'), some (.int (m : Int))] ∧ H' = H ∧ lowL n' m = lowL n t) ⟨t, n, rfl, rfl, rfl⟩ ?_
  rintro m σ H' ⟨n', rfl, rfl, e⟩
  walk_at "s"
  refine ite_dec (fun h0 => ?_) (fun h0 => ?_)
  · obtain ⟨m, rfl⟩ : ∃ z, m = z + 1 := ⟨m - 1, by omega⟩
    have e2 : ((m + 1 : Nat) : Int) - 1 = (m : Int) := by omega
    walk_at "s"
    refine ite_dec (fun h1 => ?_) (fun h1 => ?_)
    · refine r_wbody ?_
      walk_at "s"
      rw [e2]
      exact ⟨m, Nat.lt_succ_self m, _, rfl, rfl, by rw [← e]; exact (if_pos h1).symm⟩
    · walk_at "s"
      rw [← e, show lowL n' (m + 1) = (n', m + 1) from if_neg h1] at k
      exact k _ _ (by assumption) (by assumption) (by assumption)
  · obtain rfl : m = 0 := by omega
    walk_at "s"
    rw [← e] at k
    exact k _ _ (by assumption) (by assumption) (by assumption)

theorem ok_grown {f : Addr} {fd : FuncData} (F : Fun K "grown" "grown" s_grown f fd) (T : Txt K mg C)  : FnOk P w K mg base (L2.CX P w) 1 f fd ["fraction", "twos"] (spGrown K) := by
  refine F.okX sc_grown (fun vs H Q E => by walk_at "len") (fun cdv A outer s H vs Q E hr h => ?_)
  obtain ⟨a, n, t, T, rfl, hF, hT, hT2, hn, k⟩ := h
  unfold FrAt at hF
  refine ⟨_, (pss_one (ps_ret (pe_op op_shl (pe_ix ix_tup (pv 0) pe_int (fun _ _ => rfl)) (pe_op op_sub (pv 1) (pe_ix ix_tup (pv 0) pe_int (fun _ _ => rfl)))))), ?_⟩
  walk_at "st"
  rw [gr_cast n t T hT]
  exact k
theorem ok_added {f : Addr} {fd : FuncData} (F : Fun K "added" "added" s_added f fd) (T : Txt K mg C) (c_grown : CalX P w K mg base 1 "grown" (spGrown K))
    (c_lowest : CalX P w K mg base 1 "lowest" spLow) : FnOk P w K mg base (L2.CX P w) 2 f fd ["one", "other"] (spAdded K) := by
  refine F.okX sc_added (fun vs H Q E => by walk_at "len") (fun cdv A outer s H vs Q E hr h => ?_)
  obtain ⟨a, b, n, t, m, u, rfl, hA, hB, ht, hu', hn, hm, k⟩ := h
  have hA' := hA
  have hB' := hB
  unfold FrAt at hA' hB'
  have hu := hu_of hr
  refine ⟨_, (pss_cons (ps_set (i := 2) sc_added.nd rfl (Or.inl rfl) (pe_callB (call_max2 rfl) (by rfl) T.b_max (by decide +kernel) (pa_cons (pe_ix ix_tup (pv 0) pe_int (fun _ _ => rfl)) (pa_cons (pe_ix ix_tup (pv 1) pe_int (fun _ _ => rfl)) pa_nil))))
      (pss_one (ps_ret (pe_cx c_lowest hr (by decide) (by rfl) (pa_cons (pe_op op_add (pe_cx c_grown hr (by decide) (by rfl) (pa_cons (pv 0) (pa_cons (pv 2) pa_nil))) (pe_cx c_grown hr (by decide) (by rfl) (pa_cons (pv 1) (pa_cons (pv 2) pa_nil)))) (pa_cons (pv 2) pa_nil)))))), ?_⟩
  walk_at "st"
  rw [max_cast]
  walk_at "s"
  refine ⟨a, n, t, max t u, rfl, hA, by omega, by omega, hn, ?_⟩
  walk_at "s"
  refine ⟨b, m, u, max t u, rfl, hB, by omega, by omega, hm, ?_⟩
  walk_at "s"
  exact ⟨_, _, rfl, k⟩
theorem ok_minus {f : Addr} {fd : FuncData} (F : Fun K "minus" "minus" s_minus f fd) (T : Txt K mg C)  : FnOk P w K mg base (L2.CX P w) 1 f fd ["one"] (spMinus K) := by
  refine F.okX sc_minus (fun vs H Q E => by walk_at "len") (fun cdv A outer s H vs Q E hr h => ?_)
  obtain ⟨a, n, t, rfl, hA, k⟩ := h
  unfold FrAt at hA
  refine ⟨_, (pss_one (ps_ret (pe_tup (pa_cons (pe_un un_neg (pe_ix ix_tup (pv 0) pe_int (fun _ _ => rfl))) (pa_cons (pe_ix ix_tup (pv 0) pe_int (fun _ _ => rfl)) pa_nil))))), ?_⟩
  walk_at "st"
  exact k _ _ (by assumption) (by assumption) (by assumption)
theorem ok_is_less {f : Addr} {fd : FuncData} (F : Fun K "is_less" "is_less" s_is_less f fd) (T : Txt K mg C) (c_grown : CalX P w K mg base 1 "grown" (spGrown K)) : FnOk P w K mg base (L2.CX P w) 2 f fd ["one", "other"] (spLess K) := by
  refine F.okX sc_is_less (fun vs H Q E => by walk_at "len") (fun cdv A outer s H vs Q E hr h => ?_)
  obtain ⟨a, b, n, t, m, u, rfl, hA, hB, ht, hu', hn, hm, k⟩ := h
  have hA' := hA
  have hB' := hB
  unfold FrAt at hA' hB'
  refine ⟨_, (pss_cons (ps_set (i := 2) sc_is_less.nd rfl (Or.inl rfl) (pe_callB (call_max2 rfl) (by rfl) T.b_max (by decide +kernel) (pa_cons (pe_ix ix_tup (pv 0) pe_int (fun _ _ => rfl)) (pa_cons (pe_ix ix_tup (pv 1) pe_int (fun _ _ => rfl)) pa_nil))))
      (pss_one (ps_ret (pe_cmpR op_lt (pe_cx c_grown hr (by decide) (by rfl) (pa_cons (pv 0) (pa_cons (pv 2) pa_nil))) (pe_cx c_grown hr (by decide) (by rfl) (pa_cons (pv 1) (pa_cons (pv 2) pa_nil))) (nomark _))))), ?_⟩
  walk_at "st"
  rw [max_cast]
  walk_at "s"
  refine ⟨a, n, t, max t u, rfl, hA, by omega, by omega, hn, ?_⟩
  walk_at "s"
  refine ⟨b, m, u, max t u, rfl, hB, by omega, by omega, hm, ?_⟩
  walk_at "s"
  exact k
theorem ok_l_next {f : Addr} {fd : FuncData} (F : Fun K "_law_next" "_law_next" s_l_next f fd) (T : Txt K mg C)  : FnOk P w K mg base (L2.CX P w) 1 f fd ["_law_state_here", "_law_many"] spNext := by
  refine F.okX sc_l_next (fun vs H Q E => by walk_at "len") (fun cdv A outer s H vs Q E hr h => ?_)
  obtain ⟨a, s0, m, rfl, hA, hm, k⟩ := h
  refine ⟨_, (pss_cons (ps_asg (pe_op op_mod (pe_op op_add (pe_op op_mul (pe_ix ix_list (pv 0) pe_int (fun _ _ => rfl)) pe_int) pe_int) pe_int) (pg_sub (pv 0) pe_int set_list))
      (pss_one (ps_ret (pe_op op_mod (pe_op op_fdiv (pe_ix ix_list (pv 0) pe_int (fun _ _ => rfl)) pe_int) (pv 1))))), ?_⟩
  walk_at "st"
  exact k _ (by assumption) (by assumption)
theorem ok_l_state {f : Addr} {fd : FuncData} (F : Fun K "_law_state" "_law_state" s_l_state f fd) (T : Txt K mg C)  : FnOk P w K mg base (L2.CX P w) 1 f fd ["_law_cell_here", "_law_k"] spState := by
  refine F.okX sc_l_state (fun vs H Q E => by walk_at "len") (fun cdv A outer s H vs Q E hr h => ?_)
  obtain ⟨c, k0, rfl, k⟩ := h
  refine ⟨_, (pss_cons (ps_set (i := 2) sc_l_state.nd rfl (Or.inl rfl) (pe_op op_mod (pe_op op_add (pe_op op_add (pe_op op_mul (pv 0) pe_int) (pe_op op_mul (pv 1) pe_int)) pe_int) pe_int))
      (pss_one (ps_ret (pe_lst (pa_cons (pe_op op_add pe_int (pe_op op_mod (pe_op op_add (pe_op op_mul (pv 2) (pv 2)) (pe_op op_mul pe_int (pv 1))) pe_int)) pa_nil))))), ?_⟩
  walk_at "st"
  exact k _ _ _ (by assumption) (by assumption) (by assumption)
theorem ok_l_whole {f : Addr} {fd : FuncData} (F : Fun K "_law_whole" "_law_whole" s_l_whole f fd) (T : Txt K mg C)  : FnOk P w K mg base (L2.CX P w) 1 f fd ["_law_found"] spWhole := by
  refine F.okX sc_l_whole (fun vs H Q E => by walk_at "len") (fun cdv A outer s H vs Q E hr h => ?_)
  obtain ⟨i, rfl, k⟩ := h
  refine ⟨_, (pss_one (ps_ret (pe_and (pe_callB call_isi (by rfl) T.b_isinstance (by decide +kernel) (pa_cons (pv 0) (pa_cons (pe_bltn (v := .ty "int") (by rfl) T.b_int (by decide +kernel) rfl) pa_nil))) (pe_one (pe_not (pe_callB call_isi (by rfl) T.b_isinstance (by decide +kernel) (pa_cons (pv 0) (pa_cons (pe_bltn (v := .ty "bool") (by rfl) T.b_bool (by decide +kernel) rfl) pa_nil)))))))), ?_⟩
  walk_at "st"
  exact k
theorem ok_l_as {f : Addr} {fd : FuncData} (F : Fun K "_law_as" "_law_as" s_l_as f fd) (T : Txt K mg C)  : FnOk P w K mg base (L2.CX P w) 1 f fd ["_law_fraction_here", "_law_twos"] (spAs K) := by
  refine F.okX sc_l_as (fun vs H Q E => by walk_at "len") (fun cdv A outer s H vs Q E hr h => ?_)
  obtain ⟨a, n, t, T', rfl, hF, hT, hT2, k⟩ := h
  unfold FrAt at hF
  refine ⟨_, (pss_cons (ps_set (i := 2) sc_l_as.nd rfl (Or.inl rfl) (pe_ix ix_tup (pv 0) pe_int (fun _ _ => rfl)))
      (pss_cons (ps_for (passes_of rfl) rfl (pi_range1 (by rfl) T.b_range (pa_cons (pe_op op_sub (pv 1) (pe_ix ix_tup (pv 0) pe_int (fun _ _ => rfl))) pa_nil)) (pg_name (i := 3) sc_l_as.nd rfl (Or.inl rfl))
        (pss_one (ps_set (i := 2) sc_l_as.nd rfl (Or.inl rfl) (pe_op op_mul pe_int (pv 2)))))
      (pss_one (ps_ret (pv 2))))), ?_⟩
  walk_at "st"
  refine ⟨by omega, by omega, r_forRng (fun i σ H' => ∃ v, σ = [some (.ref a), some (.int (T' : Int)), some (.int (n * 2 ^ i)), v] ∧ H' = H) ⟨none, by rw [Int.pow_zero, Int.mul_one], rfl⟩ ?_ ?_⟩
  · rintro i σ H' hi ⟨v, rfl, rfl⟩
    walk_at "s"
    refine ⟨some (.int (0 + i)), ?_, rfl⟩
    rw [show (2 : Int) * (n * 2 ^ i) = n * 2 ^ (i + 1) by rw [Int.pow_succ]; simp only [Int.mul_comm, Int.mul_left_comm]]
  · rintro σ H' ⟨v, rfl, rfl⟩
    walk_at "s"
    rw [show ((T' : Int) - (t : Int)).toNat = T' - t by omega]
    exact k
theorem ok_l_told {f : Addr} {fd : FuncData} (F : Fun K "_law_told" "_law_told" s_l_told f fd) (T : Txt K mg C) (c_l_whole : CalX P w K mg base 1 "_law_whole" spWhole) : FnOk P w K mg base (L2.CX P w) 2 f fd ["_law_found", "_law_due"] spTold := by
  refine F.okX sc_l_told (fun vs H Q E => by walk_at "len") (fun cdv A outer s H vs Q E hr h => ?_)
  obtain ⟨a, b, n, t, rfl, hA, hB, k⟩ := h
  refine ⟨_, (pss_one (ps_ret (pe_and (pe_callB call_isi (by rfl) T.b_isinstance (by decide +kernel) (pa_cons (pv 0) (pa_cons (pe_bltn (v := .ty "tuple") (by rfl) T.b_tuple (by decide +kernel) rfl) pa_nil))) (pe_and (pe_cmpR (op_eqD hr.units) (pv 0) (pv 1) (nomark _)) (pe_and (pe_cx c_l_whole hr (by decide) (by rfl) (pa_cons (pe_ix ix_tup (pv 0) pe_int (fun _ _ => rfl)) pa_nil)) (pe_one (pe_cx c_l_whole hr (by decide) (by rfl) (pa_cons (pe_ix ix_tup (pv 0) pe_int (fun _ _ => rfl)) pa_nil)))))))), ?_⟩
  walk_at "st"
  refine ite_dec (fun _ => ?_) (fun z => (z ⟨rfl, rfl⟩).elim)
  walk_at "s"
  refine ⟨_, rfl, ?_⟩
  walk_at "s"
  refine ⟨_, rfl, ?_⟩
  exact k
omit P w K mg base in
theorem spLow_fr {n tt : Int} {H' : Hp} {Q : VK} {E : XK} (h0 : 0 ≤ tt) (h1 : tt ≤ 20) (a : -10000000 ≤ n) (b : n ≤ 10000000)
    (k : ∀ p H'' (m : Int) (t : Nat), H' p = none → Same H' H'' → H'' p = some (.tup [.int m, .int (t : Int)]) → t ≤ 20 → -10000000 ≤ m → m ≤ 10000000 → Q (.ref p) H'') : spLow [.int n, .int tt] H' Q E := by
  obtain ⟨t, rfl⟩ := Int.eq_ofNat_of_zero_le h0
  obtain ⟨c1, c2, c3⟩ := lowL_le t n 10000000 (by omega) b
  exact ⟨n, t, rfl, fun p H'' hp hS hv => k p H'' _ _ hp hS hv (by omega) (by omega) (by omega)⟩
theorem ok_l_fraction {f : Addr} {fd : FuncData} (F : Fun K "_law_fraction" "_law_fraction" s_l_fraction f fd) (T : Txt K mg C) (c_l_low : CalX P w K mg base 1 "_law_low" spLow)
    (c_l_next : CalX P w K mg base 1 "_law_next" spNext) : FnOk P w K mg base (L2.CX P w) 2 f fd ["_law_state_here"] spFrac := by
  refine F.okX sc_l_fraction (fun vs H Q E => by walk_at "len") (fun cdv A outer s H vs Q E hr h => ?_)
  obtain ⟨a, s0, rfl, hA, k⟩ := h
  refine ⟨_, (pss_cons (ps_set (i := 1) sc_l_fraction.nd rfl (Or.inl rfl) (pe_cx c_l_next hr (by decide) (by rfl) (pa_cons (pv 0) (pa_cons pe_int pa_nil))))
      (pss_cons (ps_if (pt_cmpR op_eq (pv 1) pe_int (nomark _)) (pss_one (ps_ret (pe_tup (pa_cons (pe_op op_sub (pe_cx c_l_next hr (by decide) (by rfl) (pa_cons (pv 0) (pa_cons pe_int pa_nil))) pe_int) (pa_cons pe_int pa_nil))))) pss_nil)
      (pss_cons (ps_set (i := 2) sc_l_fraction.nd rfl (Or.inl rfl) (pe_cx c_l_next hr (by decide) (by rfl) (pa_cons (pv 0) (pa_cons (pe_ix ix_list (pe_lst (pa_cons pe_int (pa_cons pe_int (pa_cons pe_int (pa_cons pe_int pa_nil))))) (pv 1) (fun _ _ => rfl)) pa_nil))))
      (pss_one (ps_ret (pe_cx c_l_low hr (by decide) (by rfl) (pa_cons (pe_op op_sub (pe_cx c_l_next hr (by decide) (by rfl) (pa_cons (pv 0) (pa_cons (pe_ix ix_list (pe_lst (pa_cons pe_int (pa_cons pe_int (pa_cons pe_int (pa_cons pe_int pa_nil))))) (pv 1) (fun _ _ => rfl)) pa_nil))) (pe_ix ix_list (pe_lst (pa_cons pe_int (pa_cons pe_int (pa_cons pe_int (pa_cons pe_int pa_nil))))) (pv 1) (fun _ _ => rfl))) (pa_cons (pv 2) pa_nil)))))))), ?_⟩
  walk_at "st"
  refine ⟨a, s0, 4, rfl, hA, by decide, fun H1 b1 v1 => ?_⟩
  walk_at "s"
  generalize hw : nxt s0 / 7 % 4 = wy
  have hw4 : wy = 0 ∨ wy = 1 ∨ wy = 2 ∨ wy = 3 := by omega
  refine ite_dec (fun h0 => ?_) (fun h0 => ?_)
  · walk_at "s"
    refine ⟨a, nxt s0, 17, rfl, by walk_at "hp", by decide, fun H2 b2 v2 => ?_⟩
    walk_at "s"
    exact k _ _ _ 0 (nxt (nxt s0)) (by walk_at "but") (by walk_at "hp") (by walk_at "free") (by assumption) (by omega) (by omega) (by omega)
  · walk_at "s"
    rcases hw4 with rfl | rfl | rfl | rfl
    · exact (h0 rfl).elim
    all_goals
      walk_at "s"
      refine ⟨a, nxt s0, _, rfl, by walk_at "hp", by decide, fun H2 b2 v2 => ?_⟩
      walk_at "s"
      refine ⟨a, nxt (nxt s0), _, rfl, by walk_at "hp", by decide, fun H3 b3 v3 => ?_⟩
      walk_at "s"
      exact spLow_fr (by omega) (by omega) (by omega) (by omega) fun p H4 m t hp hS hv h1 h2 h3 => k _ _ m t _ (by walk_at "but") (by walk_at "hp") (by walk_at "free") hv h1 h2 h3
theorem ok_law {f : Addr} {fd : FuncData} (F : Fun K "law" "law" s_law f fd) (T : Txt K mg C) (c_l_as : CalX P w K mg base 1 "_law_as" (spAs K))
    (c_l_fraction : CalX P w K mg base 2 "_law_fraction" spFrac)
    (c_l_low : CalX P w K mg base 1 "_law_low" spLow)
    (c_l_next : CalX P w K mg base 1 "_law_next" spNext)
    (c_l_state : CalX P w K mg base 1 "_law_state" spState)
    (c_l_told : CalX P w K mg base 2 "_law_told" spTold)
    (c_added : CalX P w K mg base 2 "added" (spAdded K))
    (c_is_less : CalX P w K mg base 2 "is_less" (spLess K))
    (c_lowest : CalX P w K mg base 1 "lowest" spLow)
    (c_minus : CalX P w K mg base 1 "minus" (spMinus K)) : FnOk P w K mg base (L2.CX P w) 3 f fd ["_law_script"] (spLaw K) := by
  refine F.okX sc_law (fun vs H Q E => by walk_at "len") (fun cdv A outer s H vs Q E hr h => ?_)
  obtain ⟨a, ns, rfl, hL, hlen, k⟩ := h
  refine ⟨_, (pss_cons (ps_for (passes_of rfl) rfl (pi_range1 (by rfl) T.b_range (pa_cons (pe_callB cr_len (by rfl) T.b_len PySem.boot_len (pa_cons (pv 0) pa_nil)) pa_nil)) (pg_name (i := 1) sc_law.nd rfl (Or.inl rfl))
        (pss_cons (ps_set (i := 2) sc_law.nd rfl (Or.inl rfl) (pe_cx c_l_state hr (by decide) (by rfl) (pa_cons (pe_ix ix_list (pv 0) (pv 1) (fun _ _ => rfl)) (pa_cons (pv 1) pa_nil))))
        (pss_cons (ps_set (i := 3) sc_law.nd rfl (Or.inl rfl) (pe_cx c_l_fraction hr (by decide) (by rfl) (pa_cons (pv 2) pa_nil)))
        (pss_cons (ps_set (i := 4) sc_law.nd rfl (Or.inl rfl) (pe_ix ix_list (pe_lst (pa_cons (pv 3) (pa_cons (pe_cx c_l_fraction hr (by decide) (by rfl) (pa_cons (pv 2) pa_nil)) pa_nil))) (pe_callTy cr_int1 (by rfl) T.b_int (by decide +kernel) (pa_cons (pe_cmpR op_gt (pe_cx c_l_next hr (by decide) (by rfl) (pa_cons (pv 2) (pa_cons pe_int pa_nil))) pe_int (nomark _)) pa_nil)) (fun _ _ => rfl)))
        (pss_cons (ps_set (i := 5) sc_law.nd rfl (Or.inl rfl) (pe_callB (call_max2 rfl) (by rfl) T.b_max (by decide +kernel) (pa_cons (pe_ix ix_tup (pv 3) pe_int (fun _ _ => rfl)) (pa_cons (pe_ix ix_tup (pv 4) pe_int (fun _ _ => rfl)) pa_nil))))
        (pss_cons (ps_par (i := 6) (j := 7) (by rfl) sc_law.nd rfl rfl (by decide) rfl rfl (pa_cons (pe_cx c_l_as hr (by decide) (by rfl) (pa_cons (pv 3) (pa_cons (pv 5) pa_nil))) (pa_cons (pe_cx c_l_as hr (by decide) (by rfl) (pa_cons (pv 4) (pa_cons (pv 5) pa_nil))) pa_nil)) (by rfl))
        (pss_cons (ps_if (pt_not (pt_val (pe_cx c_l_told hr (by decide) (by rfl) (pa_cons (pe_cx c_added hr (by decide) (by rfl) (pa_cons (pv 3) (pa_cons (pv 4) pa_nil))) (pa_cons (pe_cx c_l_low hr (by decide) (by rfl) (pa_cons (pe_op op_add (pv 6) (pv 7)) (pa_cons (pv 5) pa_nil))) pa_nil))))) (pss_one (ps_ret pe_bl)) pss_nil)
        (pss_cons (ps_if (pt_not (pt_val (pe_cx c_l_told hr (by decide) (by rfl) (pa_cons (pe_cx c_minus hr (by decide) (by rfl) (pa_cons (pv 3) pa_nil)) (pa_cons (pe_tup (pa_cons (pe_un un_neg (pe_ix ix_tup (pv 3) pe_int (fun _ _ => rfl))) (pa_cons (pe_ix ix_tup (pv 3) pe_int (fun _ _ => rfl)) pa_nil))) pa_nil))))) (pss_one (ps_ret pe_bl)) pss_nil)
        (pss_cons (ps_set (i := 8) sc_law.nd rfl (Or.inl rfl) (pe_cx c_is_less hr (by decide) (by rfl) (pa_cons (pv 3) (pa_cons (pv 4) pa_nil))))
        (pss_cons (ps_if (PW.pt (pw_or (pt_not (pt_val (pe_callB call_isi (by rfl) T.b_isinstance (by decide +kernel) (pa_cons (pv 8) (pa_cons (pe_bltn (v := .ty "bool") (by rfl) T.b_bool (by decide +kernel) rfl) pa_nil))))) (pw_or1 (pt_cmpR op_ne (pv 8) (pe_cmpR op_lt (pv 6) (pv 7) (nomark _)) (nomark _))))) (pss_one (ps_ret pe_bl)) pss_nil)
        (pss_cons (ps_set (i := 9) sc_law.nd rfl (Or.inl rfl) (pe_op op_sub (pe_cx c_l_next hr (by decide) (by rfl) (pa_cons (pv 2) (pa_cons (pe_op op_pow pe_int pe_int) pa_nil))) pe_int))
        (pss_cons (ps_if (pt_cmpR op_eq (pe_cx c_l_next hr (by decide) (by rfl) (pa_cons (pv 2) (pa_cons pe_int pa_nil))) pe_int (nomark _)) (pss_one (ps_set (i := 9) sc_law.nd rfl (Or.inl rfl) (pe_op op_add (pe_op op_mul (pv 9) (pe_op op_pow pe_int pe_int)) (pe_cx c_l_next hr (by decide) (by rfl) (pa_cons (pv 2) (pa_cons (pe_op op_pow pe_int pe_int) pa_nil)))))) pss_nil)
        (pss_cons (ps_set (i := 10) sc_law.nd rfl (Or.inl rfl) (pe_cx c_l_next hr (by decide) (by rfl) (pa_cons (pv 2) (pa_cons pe_int pa_nil))))
        (pss_cons (ps_set (i := 11) sc_law.nd rfl (Or.inl rfl) (pe_cx c_l_next hr (by decide) (by rfl) (pa_cons (pv 2) (pa_cons (pe_op op_add (pv 10) pe_int) pa_nil))))
        (pss_cons (ps_for (passes_of rfl) rfl (pi_range1 (by rfl) T.b_range (pa_cons (pv 11) pa_nil)) (pg_name (i := 12) sc_law.nd rfl (Or.inl rfl))
          (pss_one (ps_set (i := 9) sc_law.nd rfl (Or.inl rfl) (pe_op op_mul pe_int (pv 9)))))
        (pss_one (ps_if (pt_not (pt_val (pe_cx c_l_told hr (by decide) (by rfl) (pa_cons (pe_cx c_lowest hr (by decide) (by rfl) (pa_cons (pv 9) (pa_cons (pv 10) pa_nil))) (pa_cons (pe_cx c_l_low hr (by decide) (by rfl) (pa_cons (pv 9) (pa_cons (pv 10) pa_nil))) pa_nil))))) (pss_one (ps_ret pe_bl)) pss_nil)))))))))))))))))
      (pss_one (ps_ret (pe_and (pe_cmpR (op_eqD hr.units) (pe_cx c_lowest hr (by decide) (by rfl) (pa_cons pe_int (pa_cons pe_int pa_nil))) (pe_tup (pa_cons pe_int (pa_cons pe_int pa_nil))) (nomark _)) (pe_one (pe_cmpR (op_eqD hr.units) (pe_cx c_lowest hr (by decide) (by rfl) (pa_cons pe_int (pa_cons pe_int pa_nil))) (pe_tup (pa_cons pe_int (pa_cons pe_int pa_nil))) (nomark _))))))), ?_⟩
  walk_at "st"
  refine ⟨by omega, by rw [List.length_map]; omega, r_forRng (fun i σ H' => ∃ x1 x2 x3 x4 x5 x6 x7 x8 x9 x10 x11 x12, σ = [some (.ref a), x1, x2, x3, x4, x5, x6, x7, x8, x9, x10, x11, x12] ∧ Same H H') ⟨none, none, none, none, none, none, none, none, none, none, none, none, rfl, Same.refl _⟩ ?_ ?_⟩
  · rintro i σ H1 hi ⟨x1, x2, x3, x4, x5, x6, x7, x8, x9, x10, x11, x12, rfl, hS0⟩
    have hi' : i < ns.length := by rw [List.length_map] at hi; omega
    have hx : atI (ns.map V.int) (0 + (i : Int)) = some (.int ns[i]) := by
      rw [Int.zero_add]
      exact atI_nat (by rw [List.getElem?_map, List.getElem?_eq_getElem hi']; rfl)
    walk_at "s"
    refine ⟨_, _, rfl, fun st s0 H2 hp2 hS2 hv2 => ?_⟩
    walk_at "s"
    refine ⟨st, s0, rfl, hv2, fun H3 p3 n t s1 b3 v3 f3 q3 t3 l3 u3 => ?_⟩
    walk_at "s"
    refine ⟨st, s1, rfl, v3, fun H4 p4 m u s2 b4 v4 f4 q4 t4 l4 u4 => ?_⟩
    walk_at "s"
    refine ⟨st, s2, 5, rfl, by walk_at "hp", by decide, fun H5 b5 v5 => ?_⟩
    walk_at "s"
    obtain ⟨po, mo, uo, e5, q5, t5, l5, u5⟩ : ∃ (po : Addr) (mo : Int) (uo : Nat), atI [V.ref p3, V.ref p4] (if decide (nxt s2 / 7 % 5 > 0) = true then 1 else 0) = some (.ref po) ∧ H5 po = some (.tup [.int mo, .int (uo : Int)]) ∧ uo ≤ 20 ∧ -10000000 ≤ mo ∧ mo ≤ 10000000 := by
      by_cases hc : nxt s2 / 7 % 5 > 0
      · exact ⟨p4, m, u, by rw [decide_eq_true hc]; exact at1, by walk_at "hp", t4, l4, u4⟩
      · exact ⟨p3, n, t, by rw [decide_eq_false hc]; exact at0, by walk_at "hp", t3, l3, u3⟩
    walk_at "s"
    rw [max_cast]
    walk_at "s"
    refine ⟨p3, n, t, max t uo, rfl, by walk_at "sq", by omega, by omega, ?_⟩
    walk_at "s"
    refine ⟨po, mo, uo, max t uo, rfl, by walk_at "sq", by omega, by omega, ?_⟩
    walk_at "s"
    refine ⟨p3, po, n, t, mo, uo, rfl, by walk_at "sq", by walk_at "sq", by omega, by omega, by omega, by omega, fun p6 H6 n6 s6 v6 => ?_⟩
    walk_at "s"
    refine ⟨_, max t uo, rfl, fun p7 H7 n7 s7 v7 => ?_⟩
    walk_at "s"
    refine ⟨p6, p7, _, _, rfl, by walk_at "hp", by walk_at "hp", ?_⟩
    walk_at "s"
    refine ⟨p3, n, t, rfl, by walk_at "sq", fun p8 H8 n8 s8 v8 => ?_⟩
    walk_at "s"
    refine ⟨p8, _, _, _, rfl, by walk_at "hp", by walk_at "hp", ?_⟩
    walk_at "s"
    refine ⟨p3, po, n, t, mo, uo, rfl, by walk_at "sq", by walk_at "sq", by omega, by omega, by omega, by omega, ?_⟩
    walk_at "s"
    refine ite_nself ?_
    walk_at "s"
    refine ⟨st, nxt s2, 1000000, rfl, by walk_at "hp", by decide, fun H9 b9 v9 => ?_⟩
    walk_at "s"
    refine ⟨st, _, 2, rfl, by walk_at "hp", by decide, fun H10 b10 v10 => ?_⟩
    walk_at "s"
    refine ite_dec (fun _ => ?_) (fun _ => ?_)
    · walk_at "s"
      refine ⟨st, _, 1000000000, rfl, by walk_at "hp", by decide, fun H11 b11 v11 => ?_⟩
      walk_at "s"
      generalize (nxt (nxt s2) / 7 % 1000000 - 500000) * 10 ^ Int.toNat 25 + nxt (nxt (nxt (nxt s2))) / 7 % 1000000000 = N0
      walk_at "s"
      refine ⟨st, _, 41, rfl, by walk_at "hp", by decide, fun H12 b12 v12 => ?_⟩
      obtain ⟨M, hM⟩ := Int.eq_ofNat_of_zero_le (show 0 ≤ nxt (nxt (nxt (nxt (nxt s2)))) / 7 % 41 by omega)
      have hM' : M ≤ 40 := by omega
      rw [hM]
      walk_at "s"
      refine ⟨st, _, (M : Int) + 1, rfl, by walk_at "hp", by omega, fun H13 b13 v13 => ?_⟩
      walk_at "s"
      generalize hS : nxt (nxt (nxt (nxt (nxt (nxt s2))))) / 7 % ((M : Int) + 1) = SH
      have hSH : 0 ≤ SH ∧ SH ≤ 41 := by
        rw [← hS]
        exact ⟨Int.emod_nonneg _ (by omega), by have := Int.emod_lt_of_pos (nxt (nxt (nxt (nxt (nxt (nxt s2))))) / 7) (show 0 < (M : Int) + 1 by omega); omega⟩
      refine ⟨by omega, by omega, r_forRng (fun i σ H' => ∃ y1 y2 y3 y4 y5 y6 y7 y8 N y11 y12, σ = [some (.ref a), y1, y2, y3, y4, y5, y6, y7, y8, some (.int N), some (.int (M : Int)), y11, y12] ∧ H' = H13) ⟨_, _, _, _, _, _, _, _, _, _, _, rfl, rfl⟩ ?_ ?_⟩
      · rintro j σ H' hj ⟨y1, y2, y3, y4, y5, y6, y7, y8, N, y11, y12, rfl, rfl⟩
        walk_at "s"
        exact ⟨_, _, _, _, _, _, _, _, _, _, _, rfl, rfl⟩
      · rintro σ H' ⟨y1, y2, y3, y4, y5, y6, y7, y8, N, y11, y12, rfl, rfl⟩
        walk_at "s"
        refine ⟨_, M, rfl, fun p14 H14 n14 s14 v14 => ?_⟩
        walk_at "s"
        refine ⟨_, M, rfl, fun p15 H15 n15 s15 v15 => ?_⟩
        walk_at "s"
        refine ⟨p14, p15, _, _, rfl, by walk_at "hp", by walk_at "hp", ?_⟩
        walk_at "s"
        exact ⟨_, _, _, _, _, _, _, _, _, _, _, _, rfl, by walk_at "same"⟩
    · walk_at "s"
      generalize nxt (nxt s2) / 7 % 1000000 - 500000 = N0
      walk_at "s"
      refine ⟨st, _, 41, rfl, by walk_at "hp", by decide, fun H12 b12 v12 => ?_⟩
      obtain ⟨M, hM⟩ := Int.eq_ofNat_of_zero_le (show 0 ≤ nxt (nxt (nxt (nxt s2))) / 7 % 41 by omega)
      have hM' : M ≤ 40 := by omega
      rw [hM]
      walk_at "s"
      refine ⟨st, _, (M : Int) + 1, rfl, by walk_at "hp", by omega, fun H13 b13 v13 => ?_⟩
      walk_at "s"
      generalize hS : nxt (nxt (nxt (nxt (nxt s2)))) / 7 % ((M : Int) + 1) = SH
      have hSH : 0 ≤ SH ∧ SH ≤ 41 := by
        rw [← hS]
        exact ⟨Int.emod_nonneg _ (by omega), by have := Int.emod_lt_of_pos (nxt (nxt (nxt (nxt (nxt s2)))) / 7) (show 0 < (M : Int) + 1 by omega); omega⟩
      refine ⟨by omega, by omega, r_forRng (fun i σ H' => ∃ y1 y2 y3 y4 y5 y6 y7 y8 N y11 y12, σ = [some (.ref a), y1, y2, y3, y4, y5, y6, y7, y8, some (.int N), some (.int (M : Int)), y11, y12] ∧ H' = H13) ⟨_, _, _, _, _, _, _, _, _, _, _, rfl, rfl⟩ ?_ ?_⟩
      · rintro j σ H' hj ⟨y1, y2, y3, y4, y5, y6, y7, y8, N, y11, y12, rfl, rfl⟩
        walk_at "s"
        exact ⟨_, _, _, _, _, _, _, _, _, _, _, rfl, rfl⟩
      · rintro σ H' ⟨y1, y2, y3, y4, y5, y6, y7, y8, N, y11, y12, rfl, rfl⟩
        walk_at "s"
        refine ⟨_, M, rfl, fun p14 H14 n14 s14 v14 => ?_⟩
        walk_at "s"
        refine ⟨_, M, rfl, fun p15 H15 n15 s15 v15 => ?_⟩
        walk_at "s"
        refine ⟨p14, p15, _, _, rfl, by walk_at "hp", by walk_at "hp", ?_⟩
        walk_at "s"
        exact ⟨_, _, _, _, _, _, _, _, _, _, _, _, rfl, by walk_at "same"⟩
  · rintro σ H1 ⟨x1, x2, x3, x4, x5, x6, x7, x8, x9, x10, x11, x12, rfl, hS0⟩
    walk_at "s"
    refine ⟨0, 5, rfl, fun p1 H2 n2 s2 v2 => ?_⟩
    walk_at "s"
    rw [show decide ((lowL 0 5).1 = 0 ∧ ((lowL 0 5).2 : Int) = 0) = true by decide]
    walk_at "s"
    refine ⟨6, 1, rfl, fun p1 H2 n2 s2 v2 => ?_⟩
    walk_at "s"
    rw [show decide ((lowL 6 1).1 = 3 ∧ ((lowL 6 1).2 : Int) = 0) = true by decide]
    exact k _
end
theorem all_mk {l : PySem.W.OpenLaw} {w : World} {K : PySem.W.Frag} {h : Heap} {mg : Str → Option Value} {fa : Addr} (X : K.In h) (G : h.Ns mainGlobals mg) (hfa : mg "law" = some (.ref fa))
    {f_lowest : Addr} {od_lowest an_lowest : Option Addr} {sl_lowest : Array (Option Value)} {oc_lowest kV_lowest dc_lowest pm_lowest cd_lowest ct_lowest : Value}
    {f_grown : Addr} {od_grown an_grown : Option Addr} {sl_grown : Array (Option Value)} {oc_grown kV_grown dc_grown pm_grown cd_grown ct_grown : Value}
    {f_added : Addr} {od_added an_added : Option Addr} {sl_added : Array (Option Value)} {oc_added kV_added dc_added pm_added cd_added ct_added : Value}
    {f_minus : Addr} {od_minus an_minus : Option Addr} {sl_minus : Array (Option Value)} {oc_minus kV_minus dc_minus pm_minus cd_minus ct_minus : Value}
    {f_is_less : Addr} {od_is_less an_is_less : Option Addr} {sl_is_less : Array (Option Value)} {oc_is_less kV_is_less dc_is_less pm_is_less cd_is_less ct_is_less : Value}
    {f_l_next : Addr} {od_l_next an_l_next : Option Addr} {sl_l_next : Array (Option Value)} {oc_l_next kV_l_next dc_l_next pm_l_next cd_l_next ct_l_next : Value}
    {f_l_state : Addr} {od_l_state an_l_state : Option Addr} {sl_l_state : Array (Option Value)} {oc_l_state kV_l_state dc_l_state pm_l_state cd_l_state ct_l_state : Value}
    {f_l_whole : Addr} {od_l_whole an_l_whole : Option Addr} {sl_l_whole : Array (Option Value)} {oc_l_whole kV_l_whole dc_l_whole pm_l_whole cd_l_whole ct_l_whole : Value}
    {f_l_low : Addr} {od_l_low an_l_low : Option Addr} {sl_l_low : Array (Option Value)} {oc_l_low kV_l_low dc_l_low pm_l_low cd_l_low ct_l_low : Value}
    {f_l_as : Addr} {od_l_as an_l_as : Option Addr} {sl_l_as : Array (Option Value)} {oc_l_as kV_l_as dc_l_as pm_l_as cd_l_as ct_l_as : Value}
    {f_l_fraction : Addr} {od_l_fraction an_l_fraction : Option Addr} {sl_l_fraction : Array (Option Value)} {oc_l_fraction kV_l_fraction dc_l_fraction pm_l_fraction cd_l_fraction ct_l_fraction : Value}
    {f_l_told : Addr} {od_l_told an_l_told : Option Addr} {sl_l_told : Array (Option Value)} {oc_l_told kV_l_told dc_l_told pm_l_told cd_l_told ct_l_told : Value}
    {f_law : Addr} {od_law an_law : Option Addr} {sl_law : Array (Option Value)} {oc_law kV_law dc_law pm_law cd_law ct_law : Value}
    (z_bool : PySem.W.nsIn K mainGlobals "bool" = some none)
    (z_int : PySem.W.nsIn K mainGlobals "int" = some none)
    (z_isinstance : PySem.W.nsIn K mainGlobals "isinstance" = some none)
    (z_len : PySem.W.nsIn K mainGlobals "len" = some none)
    (z_max : PySem.W.nsIn K mainGlobals "max" = some none)
    (z_range : PySem.W.nsIn K mainGlobals "range" = some none)
    (z_tuple : PySem.W.nsIn K mainGlobals "tuple" = some none)
    (a_lowest : PySem.W.nsIn K mainGlobals "lowest" = some (some (.ref f_lowest)))
    (l_lowest : K.lookup f_lowest = some ⟨oc_lowest, od_lowest, .func (PySem.W.fnOf "lowest" "lowest" (defArgs s_lowest) (defBody s_lowest) (defScope s_lowest) .none kV_lowest dc_lowest pm_lowest an_lowest cd_lowest ct_lowest), sl_lowest⟩)
    (c_lowest : PySem.W.codeIn K cd_lowest "lowest" = true)
    (k_lowest : PySem.W.keepIn K (.ref f_lowest) = true)
    (a_grown : PySem.W.nsIn K mainGlobals "grown" = some (some (.ref f_grown)))
    (l_grown : K.lookup f_grown = some ⟨oc_grown, od_grown, .func (PySem.W.fnOf "grown" "grown" (defArgs s_grown) (defBody s_grown) (defScope s_grown) .none kV_grown dc_grown pm_grown an_grown cd_grown ct_grown), sl_grown⟩)
    (c_grown : PySem.W.codeIn K cd_grown "grown" = true)
    (k_grown : PySem.W.keepIn K (.ref f_grown) = true)
    (a_added : PySem.W.nsIn K mainGlobals "added" = some (some (.ref f_added)))
    (l_added : K.lookup f_added = some ⟨oc_added, od_added, .func (PySem.W.fnOf "added" "added" (defArgs s_added) (defBody s_added) (defScope s_added) .none kV_added dc_added pm_added an_added cd_added ct_added), sl_added⟩)
    (c_added : PySem.W.codeIn K cd_added "added" = true)
    (k_added : PySem.W.keepIn K (.ref f_added) = true)
    (a_minus : PySem.W.nsIn K mainGlobals "minus" = some (some (.ref f_minus)))
    (l_minus : K.lookup f_minus = some ⟨oc_minus, od_minus, .func (PySem.W.fnOf "minus" "minus" (defArgs s_minus) (defBody s_minus) (defScope s_minus) .none kV_minus dc_minus pm_minus an_minus cd_minus ct_minus), sl_minus⟩)
    (c_minus : PySem.W.codeIn K cd_minus "minus" = true)
    (k_minus : PySem.W.keepIn K (.ref f_minus) = true)
    (a_is_less : PySem.W.nsIn K mainGlobals "is_less" = some (some (.ref f_is_less)))
    (l_is_less : K.lookup f_is_less = some ⟨oc_is_less, od_is_less, .func (PySem.W.fnOf "is_less" "is_less" (defArgs s_is_less) (defBody s_is_less) (defScope s_is_less) .none kV_is_less dc_is_less pm_is_less an_is_less cd_is_less ct_is_less), sl_is_less⟩)
    (c_is_less : PySem.W.codeIn K cd_is_less "is_less" = true)
    (k_is_less : PySem.W.keepIn K (.ref f_is_less) = true)
    (a_l_next : PySem.W.nsIn K mainGlobals "_law_next" = some (some (.ref f_l_next)))
    (l_l_next : K.lookup f_l_next = some ⟨oc_l_next, od_l_next, .func (PySem.W.fnOf "_law_next" "_law_next" (defArgs s_l_next) (defBody s_l_next) (defScope s_l_next) .none kV_l_next dc_l_next pm_l_next an_l_next cd_l_next ct_l_next), sl_l_next⟩)
    (c_l_next : PySem.W.codeIn K cd_l_next "_law_next" = true)
    (k_l_next : PySem.W.keepIn K (.ref f_l_next) = true)
    (a_l_state : PySem.W.nsIn K mainGlobals "_law_state" = some (some (.ref f_l_state)))
    (l_l_state : K.lookup f_l_state = some ⟨oc_l_state, od_l_state, .func (PySem.W.fnOf "_law_state" "_law_state" (defArgs s_l_state) (defBody s_l_state) (defScope s_l_state) .none kV_l_state dc_l_state pm_l_state an_l_state cd_l_state ct_l_state), sl_l_state⟩)
    (c_l_state : PySem.W.codeIn K cd_l_state "_law_state" = true)
    (k_l_state : PySem.W.keepIn K (.ref f_l_state) = true)
    (a_l_whole : PySem.W.nsIn K mainGlobals "_law_whole" = some (some (.ref f_l_whole)))
    (l_l_whole : K.lookup f_l_whole = some ⟨oc_l_whole, od_l_whole, .func (PySem.W.fnOf "_law_whole" "_law_whole" (defArgs s_l_whole) (defBody s_l_whole) (defScope s_l_whole) .none kV_l_whole dc_l_whole pm_l_whole an_l_whole cd_l_whole ct_l_whole), sl_l_whole⟩)
    (c_l_whole : PySem.W.codeIn K cd_l_whole "_law_whole" = true)
    (k_l_whole : PySem.W.keepIn K (.ref f_l_whole) = true)
    (a_l_low : PySem.W.nsIn K mainGlobals "_law_low" = some (some (.ref f_l_low)))
    (l_l_low : K.lookup f_l_low = some ⟨oc_l_low, od_l_low, .func (PySem.W.fnOf "_law_low" "_law_low" (defArgs s_l_low) (defBody s_l_low) (defScope s_l_low) .none kV_l_low dc_l_low pm_l_low an_l_low cd_l_low ct_l_low), sl_l_low⟩)
    (c_l_low : PySem.W.codeIn K cd_l_low "_law_low" = true)
    (k_l_low : PySem.W.keepIn K (.ref f_l_low) = true)
    (a_l_as : PySem.W.nsIn K mainGlobals "_law_as" = some (some (.ref f_l_as)))
    (l_l_as : K.lookup f_l_as = some ⟨oc_l_as, od_l_as, .func (PySem.W.fnOf "_law_as" "_law_as" (defArgs s_l_as) (defBody s_l_as) (defScope s_l_as) .none kV_l_as dc_l_as pm_l_as an_l_as cd_l_as ct_l_as), sl_l_as⟩)
    (c_l_as : PySem.W.codeIn K cd_l_as "_law_as" = true)
    (k_l_as : PySem.W.keepIn K (.ref f_l_as) = true)
    (a_l_fraction : PySem.W.nsIn K mainGlobals "_law_fraction" = some (some (.ref f_l_fraction)))
    (l_l_fraction : K.lookup f_l_fraction = some ⟨oc_l_fraction, od_l_fraction, .func (PySem.W.fnOf "_law_fraction" "_law_fraction" (defArgs s_l_fraction) (defBody s_l_fraction) (defScope s_l_fraction) .none kV_l_fraction dc_l_fraction pm_l_fraction an_l_fraction cd_l_fraction ct_l_fraction), sl_l_fraction⟩)
    (c_l_fraction : PySem.W.codeIn K cd_l_fraction "_law_fraction" = true)
    (k_l_fraction : PySem.W.keepIn K (.ref f_l_fraction) = true)
    (a_l_told : PySem.W.nsIn K mainGlobals "_law_told" = some (some (.ref f_l_told)))
    (l_l_told : K.lookup f_l_told = some ⟨oc_l_told, od_l_told, .func (PySem.W.fnOf "_law_told" "_law_told" (defArgs s_l_told) (defBody s_l_told) (defScope s_l_told) .none kV_l_told dc_l_told pm_l_told an_l_told cd_l_told ct_l_told), sl_l_told⟩)
    (c_l_told : PySem.W.codeIn K cd_l_told "_law_told" = true)
    (k_l_told : PySem.W.keepIn K (.ref f_l_told) = true)
    (a_law : PySem.W.nsIn K mainGlobals "law" = some (some (.ref f_law)))
    (l_law : K.lookup f_law = some ⟨oc_law, od_law, .func (PySem.W.fnOf "law" "law" (defArgs s_law) (defBody s_law) (defScope s_law) .none kV_law dc_law pm_law an_law cd_law ct_law), sl_law⟩)
    (c_law : PySem.W.codeIn K cd_law "law" = true)
    (k_law : PySem.W.keepIn K (.ref f_law) = true)
    : ∃ fd : FuncData, (∀ (s : Shared) (v : Value), BindsTo s fd ⟨[v], []⟩ [("_law_script", v)]) ∧ ∀ base : Heap, K.In base → base.Ns mainGlobals mg → FnOk l.prog w K mg base (L2.CX l.prog w) 3 fa fd ["_law_script"] (spLaw K) := by
  have e := hfa.symm.trans (PySem.W.mg_of X G a_law)
  cases e
  have T : Txt K mg Cs.mk := ⟨PySem.W.mg_none_of X G z_bool, PySem.W.mg_none_of X G z_int, PySem.W.mg_none_of X G z_isinstance, PySem.W.mg_none_of X G z_len, PySem.W.mg_none_of X G z_max, PySem.W.mg_none_of X G z_range, PySem.W.mg_none_of X G z_tuple⟩
  have F_lowest := fun_mk (st := s_lowest) l_lowest c_lowest k_lowest
  have b_lowest := F_lowest.binds (ps := ["number", "twos"]) fun _ _ _ _ _ _ us hl => match us, hl with | [_, _], _ => rfl
  have F_grown := fun_mk (st := s_grown) l_grown c_grown k_grown
  have b_grown := F_grown.binds (ps := ["fraction", "twos"]) fun _ _ _ _ _ _ us hl => match us, hl with | [_, _], _ => rfl
  have F_added := fun_mk (st := s_added) l_added c_added k_added
  have b_added := F_added.binds (ps := ["one", "other"]) fun _ _ _ _ _ _ us hl => match us, hl with | [_, _], _ => rfl
  have F_minus := fun_mk (st := s_minus) l_minus c_minus k_minus
  have b_minus := F_minus.binds (ps := ["one"]) fun _ _ _ _ _ _ us hl => match us, hl with | [_], _ => rfl
  have F_is_less := fun_mk (st := s_is_less) l_is_less c_is_less k_is_less
  have b_is_less := F_is_less.binds (ps := ["one", "other"]) fun _ _ _ _ _ _ us hl => match us, hl with | [_, _], _ => rfl
  have F_l_next := fun_mk (st := s_l_next) l_l_next c_l_next k_l_next
  have b_l_next := F_l_next.binds (ps := ["_law_state_here", "_law_many"]) fun _ _ _ _ _ _ us hl => match us, hl with | [_, _], _ => rfl
  have F_l_state := fun_mk (st := s_l_state) l_l_state c_l_state k_l_state
  have b_l_state := F_l_state.binds (ps := ["_law_cell_here", "_law_k"]) fun _ _ _ _ _ _ us hl => match us, hl with | [_, _], _ => rfl
  have F_l_whole := fun_mk (st := s_l_whole) l_l_whole c_l_whole k_l_whole
  have b_l_whole := F_l_whole.binds (ps := ["_law_found"]) fun _ _ _ _ _ _ us hl => match us, hl with | [_], _ => rfl
  have F_l_low := fun_mk (st := s_l_low) l_l_low c_l_low k_l_low
  have b_l_low := F_l_low.binds (ps := ["_law_number", "_law_twos"]) fun _ _ _ _ _ _ us hl => match us, hl with | [_, _], _ => rfl
  have F_l_as := fun_mk (st := s_l_as) l_l_as c_l_as k_l_as
  have b_l_as := F_l_as.binds (ps := ["_law_fraction_here", "_law_twos"]) fun _ _ _ _ _ _ us hl => match us, hl with | [_, _], _ => rfl
  have F_l_fraction := fun_mk (st := s_l_fraction) l_l_fraction c_l_fraction k_l_fraction
  have b_l_fraction := F_l_fraction.binds (ps := ["_law_state_here"]) fun _ _ _ _ _ _ us hl => match us, hl with | [_], _ => rfl
  have F_l_told := fun_mk (st := s_l_told) l_l_told c_l_told k_l_told
  have b_l_told := F_l_told.binds (ps := ["_law_found", "_law_due"]) fun _ _ _ _ _ _ us hl => match us, hl with | [_, _], _ => rfl
  have F_law := fun_mk (st := s_law) l_law c_law k_law
  refine ⟨PySem.W.fnOf "law" "law" (defArgs s_law) (defBody s_law) (defScope s_law) .none kV_law dc_law pm_law an_law cd_law ct_law, fun s v => .of_eq rfl, fun base _ _ => ?_⟩
  have o_lowest : CalX l.prog w K mg base 1 "lowest" spLow := calx (ok_lowest (P := l.prog) (w := w) (base := base) F_lowest T ) (PySem.W.mg_of X G a_lowest) k_lowest b_lowest
  have o_grown : CalX l.prog w K mg base 1 "grown" (spGrown K) := calx (ok_grown (P := l.prog) (w := w) (base := base) F_grown T ) (PySem.W.mg_of X G a_grown) k_grown b_grown
  have o_added : CalX l.prog w K mg base 2 "added" (spAdded K) := calx (ok_added (P := l.prog) (w := w) (base := base) F_added T o_grown o_lowest) (PySem.W.mg_of X G a_added) k_added b_added
  have o_minus : CalX l.prog w K mg base 1 "minus" (spMinus K) := calx (ok_minus (P := l.prog) (w := w) (base := base) F_minus T ) (PySem.W.mg_of X G a_minus) k_minus b_minus
  have o_is_less : CalX l.prog w K mg base 2 "is_less" (spLess K) := calx (ok_is_less (P := l.prog) (w := w) (base := base) F_is_less T o_grown) (PySem.W.mg_of X G a_is_less) k_is_less b_is_less
  have o_l_next : CalX l.prog w K mg base 1 "_law_next" spNext := calx (ok_l_next (P := l.prog) (w := w) (base := base) F_l_next T ) (PySem.W.mg_of X G a_l_next) k_l_next b_l_next
  have o_l_state : CalX l.prog w K mg base 1 "_law_state" spState := calx (ok_l_state (P := l.prog) (w := w) (base := base) F_l_state T ) (PySem.W.mg_of X G a_l_state) k_l_state b_l_state
  have o_l_whole : CalX l.prog w K mg base 1 "_law_whole" spWhole := calx (ok_l_whole (P := l.prog) (w := w) (base := base) F_l_whole T ) (PySem.W.mg_of X G a_l_whole) k_l_whole b_l_whole
  have o_l_low : CalX l.prog w K mg base 1 "_law_low" spLow := calx (ok_l_low (P := l.prog) (w := w) (base := base) F_l_low T ) (PySem.W.mg_of X G a_l_low) k_l_low b_l_low
  have o_l_as : CalX l.prog w K mg base 1 "_law_as" (spAs K) := calx (ok_l_as (P := l.prog) (w := w) (base := base) F_l_as T ) (PySem.W.mg_of X G a_l_as) k_l_as b_l_as
  have o_l_fraction : CalX l.prog w K mg base 2 "_law_fraction" spFrac := calx (ok_l_fraction (P := l.prog) (w := w) (base := base) F_l_fraction T o_l_low o_l_next) (PySem.W.mg_of X G a_l_fraction) k_l_fraction b_l_fraction
  have o_l_told : CalX l.prog w K mg base 2 "_law_told" spTold := calx (ok_l_told (P := l.prog) (w := w) (base := base) F_l_told T o_l_whole) (PySem.W.mg_of X G a_l_told) k_l_told b_l_told
  exact ok_law (P := l.prog) (w := w) (base := base) F_law T o_l_as o_l_fraction o_l_low o_l_next o_l_state o_l_told o_added o_is_less o_lowest o_minus
theorem walk {l : PySem.W.OpenLaw} {q : Program} {loose : List Str} {XP : (Str → Option Value) → Heap → Prop} {YP : World → Heap → Prop} {d : DefRec} {K : Params → PySem.W.Frag} (hn : l.most = some 63) (hdf : d.params.defaults = [])
    (hY : ∀ (w : World) (h : Heap), YP w h → (K w.params).In h)
    (F : ∀ (w : World) (mg : Str → Option Value) (fa : Addr) (h : Heap), (K w.params).In h → h.Ns mainGlobals mg → mg d.name = some (.ref fa) →
      ∃ fd : FuncData, (∀ (s : Shared) (u : Value), BindsTo s fd ⟨[u], []⟩ [("_law_script", u)]) ∧ ∀ base : Heap, (K w.params).In base → base.Ns mainGlobals mg → FnOk l.prog w (K w.params) mg base (L2.CX l.prog w) 3 fa fd ["_law_script"] (spLaw (K w.params))) :
    PySem.W.WalkO q loose XP YP l.row.toRowW d [] (fun f vs => PySem.call f vs) :=
  L2.walk_of (n := 63) (k := 3) (x := "_law_script") (CX := fun w => L2.CX l.prog w) (sp := fun w => spLaw (K w.params)) hn (by decide) hdf ⟨rfl, by decide, by decide⟩ hY F (fun _ _ a ns hl _ hS => ⟨a, ns, rfl, hS, hl, fun _ => rfl⟩) (fun _ _ _ _ _ z => by obtain ⟨_, _, _, _, _, _, _, _, _, _, _, _, z⟩ := z; exact z)
end K51
open PySem PySem.W PyProof.Rows
set_option maxRecDepth 100000 in
set_option maxHeartbeats 0 in
theorem PySem.Challenge.cw_duelsum_k51_fractions_holds : PySem.Challenge.rw_duelsum_k51_fractions.Holds := by
  w_on; o_law; k_head; (case hw => w_witness2)
  k_fill
  refine K51.walk (l := PySem.Challenge.rw_duelsum_k51_fractions) rfl rfl (fun w h Y => PySem.W.kIn_of Y) ?F
  case F =>
    intro w mg fa h KX G hmg
    refine' K51.all_mk KX G hmg ?z_bool ?z_int ?z_isinstance ?z_len ?z_max ?z_range ?z_tuple ?a_lowest ?l_lowest ?c_lowest ?k_lowest ?a_grown ?l_grown ?c_grown ?k_grown ?a_added ?l_added ?c_added ?k_added ?a_minus ?l_minus ?c_minus ?k_minus ?a_is_less ?l_is_less ?c_is_less ?k_is_less ?a_l_next ?l_l_next ?c_l_next ?k_l_next ?a_l_state ?l_l_state ?c_l_state ?k_l_state ?a_l_whole ?l_l_whole ?c_l_whole ?k_l_whole ?a_l_low ?l_l_low ?c_l_low ?k_l_low ?a_l_as ?l_l_as ?c_l_as ?k_l_as ?a_l_fraction ?l_l_fraction ?c_l_fraction ?k_l_fraction ?a_l_told ?l_l_told ?c_l_told ?k_l_told ?a_law ?l_law ?c_law ?k_law
    (case z_bool => k_is)
    (case z_int => k_is)
    (case z_isinstance => k_is)
    (case z_len => k_is)
    (case z_max => k_is)
    (case z_range => k_is)
    (case z_tuple => k_is)
    (case a_lowest => k_is)
    (case l_lowest => k_is)
    (case c_lowest => k_is)
    (case k_lowest => k_is)
    (case a_grown => k_is)
    (case l_grown => k_is)
    (case c_grown => k_is)
    (case k_grown => k_is)
    (case a_added => k_is)
    (case l_added => k_is)
    (case c_added => k_is)
    (case k_added => k_is)
    (case a_minus => k_is)
    (case l_minus => k_is)
    (case c_minus => k_is)
    (case k_minus => k_is)
    (case a_is_less => k_is)
    (case l_is_less => k_is)
    (case c_is_less => k_is)
    (case k_is_less => k_is)
    (case a_l_next => k_is)
    (case l_l_next => k_is)
    (case c_l_next => k_is)
    (case k_l_next => k_is)
    (case a_l_state => k_is)
    (case l_l_state => k_is)
    (case c_l_state => k_is)
    (case k_l_state => k_is)
    (case a_l_whole => k_is)
    (case l_l_whole => k_is)
    (case c_l_whole => k_is)
    (case k_l_whole => k_is)
    (case a_l_low => k_is)
    (case l_l_low => k_is)
    (case c_l_low => k_is)
    (case k_l_low => k_is)
    (case a_l_as => k_is)
    (case l_l_as => k_is)
    (case c_l_as => k_is)
    (case k_l_as => k_is)
    (case a_l_fraction => k_is)
    (case l_l_fraction => k_is)
    (case c_l_fraction => k_is)
    (case k_l_fraction => k_is)
    (case a_l_told => k_is)
    (case l_l_told => k_is)
    (case c_l_told => k_is)
    (case k_l_told => k_is)
    (case a_law => k_is)
    (case l_law => k_is)
    (case c_law => k_is)
    (case k_law => k_is)
